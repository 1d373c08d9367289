import PyProof.Rows.All
import Wide.All
import OpenK.AllK
import Wide.FinOn
import HandS.ForMost
import HandS.Deep
import HandS.TupAny
import HandS.TupMul
import HandS.Style
import KE.SortKeyHeap
import KE.DataCmp
import KE.DataMinMax
import HandS.IsInst
import HandS.Walk
import HandS.Zip
import HandS.Strs
import HandS.SetKeys
import HandS.SetFor
import PyProof.Rows.SetFrom
import HandS.TryOnly
import Lean
import KE.KStateDown
import HandS.Defaults
import HandS.Head0
import HandS.Head1
import HandS.Head2
import HandS.HeadEnd
import HandS.HeadHook1
import HandS.HeadHook2
import HandS.ForExc
import PySem.Challenge.RW_lanerows_k42_whole_laid_in_parts
set_option Elab.async false
set_option linter.all false
set_option maxRecDepth 100000
set_option maxHeartbeats 0
namespace Lr
open PySem PySem.Spec PyProof.Rows L2

/-! ### data at a value; lists that nobody writes any more -/
def Fz (H : Hp) (a : Addr) (xs : List V) : Prop := ∃ o, H a = some (.frz o (.lst xs))
theorem Fz.rd {H : Hp} {a : Addr} {xs : List V} (h : Fz H a xs) : Rd H a (.lst xs) := .inr h
theorem rd_sq {K : PySem.W.Frag} {H : Hp} {a : Addr} {xs : List V} (h : Rd H a (.lst xs)) : SqL K H a xs := .inl h
/-- a tuple, its object known, with no dict -/
def Tp (H : Hp) (a : Addr) (xs : List V) : Prop := ∃ o, H a = some (.frz o (.tup xs)) ∧ o.dict = none
theorem Tp.sq {K : PySem.W.Frag} {H : Hp} {a : Addr} {xs : List V} (h : Tp H a xs) : SqT K H a xs := let ⟨o, q, _⟩ := h; .inl (.inr ⟨o, q⟩)
mutual
inductive Has (K : PySem.W.Frag) (H : Hp) : V → PyData → Prop
  | non : Has K H .non .none
  | bl (b : Bool) : Has K H (.bl b) (.bool b)
  | int (i : Int) : Has K H (.int i) (.int i)
  | str (x : Str) : Has K H (.str x) (.str x)
  | lst {a : Addr} {xs : List V} {ds : List PyData} : Fz H a xs → HasAll K H xs ds → Has K H (.ref a) (.list ds)
  | tup {a : Addr} {xs : List V} {ds : List PyData} : Tp H a xs → HasAll K H xs ds → Has K H (.ref a) (.tuple ds)
inductive HasAll (K : PySem.W.Frag) (H : Hp) : List V → List PyData → Prop
  | nil : HasAll K H [] []
  | cons {v : V} {vs : List V} {d : PyData} {ds : List PyData} : Has K H v d → HasAll K H vs ds → HasAll K H (v :: vs) (d :: ds)
end
/-- what is kept: tuples and frozen lists -/
def Ext (H H' : Hp) : Prop := (∀ a xs, H a = some (.tup xs) → H' a = some (.tup xs)) ∧ ∀ a o u, H a = some (.frz o u) → H' a = some (.frz o u)
theorem Ext.refl (H : Hp) : Ext H H := ⟨fun _ _ h => h, fun _ _ _ h => h⟩
theorem Ext.trans {H H1 H2 : Hp} (a : Ext H H1) (b : Ext H1 H2) : Ext H H2 := ⟨fun c xs h => b.1 c xs (a.1 c xs h), fun c o u h => b.2 c o u (a.2 c o u h)⟩
theorem same_ext {H H' : Hp} (h : Same H H') : Ext H H' := ⟨fun a _ q => h a _ q, fun a _ _ q => h a _ q⟩
theorem Ext.fz {H H' : Hp} (e : Ext H H') {a : Addr} {xs : List V} (h : Fz H a xs) : Fz H' a xs := let ⟨o, q⟩ := h; ⟨o, e.2 _ _ _ q⟩
theorem same_rd {H H' : Hp} (e : Same H H') {a : Addr} {u : HO} (h : Rd H a u) : Rd H' a u := by
  rcases h with h | ⟨o, h⟩
  · exact .inl (e _ _ h)
  · exact .inr ⟨o, e _ _ h⟩
theorem Ext.tp {H H' : Hp} (e : Ext H H') {a : Addr} {xs : List V} (h : Tp H a xs) : Tp H' a xs := let ⟨o, q, d⟩ := h; ⟨o, e.2 _ _ _ q, d⟩
section
variable {K : PySem.W.Frag} {H H' : Hp}
mutual
theorem Has.ext (e : Ext H H') : ∀ {v : V} {d : PyData}, Has K H v d → Has K H' v d
  | _, _, .non => .non
  | _, _, .bl b => .bl b
  | _, _, .int i => .int i
  | _, _, .str x => .str x
  | _, _, .lst h t => .lst (e.fz h) (HasAll.ext e t)
  | _, _, .tup h t => .tup (e.tp h) (HasAll.ext e t)
theorem HasAll.ext (e : Ext H H') : ∀ {vs : List V} {ds : List PyData}, HasAll K H vs ds → HasAll K H' vs ds
  | _, _, .nil => .nil
  | _, _, .cons h t => .cons (Has.ext e h) (HasAll.ext e t)
end
mutual
theorem Has.dp : ∀ {v : V} {d : PyData}, Has K H v d → Dp K H v d
  | _, _, .non => .non
  | _, _, .bl b => .bl b
  | _, _, .int i => .int i
  | _, _, .str x => .str x
  | _, _, .lst h t => .lst (rd_sq h.rd) (HasAll.dp t)
  | _, _, .tup h t => .tup h.sq (HasAll.dp t)
theorem HasAll.dp : ∀ {vs : List V} {ds : List PyData}, HasAll K H vs ds → DpAll K H vs ds
  | _, _, .nil => .nil
  | _, _, .cons h t => .cons (Has.dp h) (HasAll.dp t)
end
theorem HasAll.length : ∀ {vs : List V} {ds : List PyData}, HasAll K H vs ds → vs.length = ds.length
  | _, _, .nil => rfl
  | _, _, .cons _ t => congrArg (· + 1) (HasAll.length t)
theorem HasAll.get : ∀ {vs : List V} {ds : List PyData} {i : Nat} {d : PyData}, HasAll K H vs ds → ds[i]? = some d → ∃ v, vs[i]? = some v ∧ Has K H v d
  | _, _, _, _, .nil, e => by simp at e
  | _, _, 0, _, .cons h _, e => by simp at e; subst e; exact ⟨_, rfl, h⟩
  | _, _, i + 1, d, .cons _ t, e => by
    obtain ⟨v, h1, h2⟩ := HasAll.get (i := i) (d := d) t (by simpa using e)
    exact ⟨v, by simpa using h1, h2⟩
theorem HasAll.get' : ∀ {vs : List V} {ds : List PyData} {i : Nat} {v : V}, HasAll K H vs ds → vs[i]? = some v → ∃ d, ds[i]? = some d ∧ Has K H v d
  | _, _, _, _, .nil, e => by simp at e
  | _, _, 0, _, .cons h _, e => by simp at e; subst e; exact ⟨_, rfl, h⟩
  | _, _, i + 1, v, .cons _ t, e => by
    obtain ⟨d, h1, h2⟩ := HasAll.get' (i := i) (v := v) t (by simpa using e)
    exact ⟨d, by simpa using h1, h2⟩
theorem HasAll.append : ∀ {vs ws : List V} {ds es : List PyData}, HasAll K H vs ds → HasAll K H ws es → HasAll K H (vs ++ ws) (ds ++ es)
  | _, _, _, _, .nil, q => q
  | _, _, _, _, .cons h t, q => .cons h (HasAll.append t q)
theorem HasAll.take : ∀ {vs : List V} {ds : List PyData} (n : Nat), HasAll K H vs ds → HasAll K H (vs.take n) (ds.take n)
  | _, _, 0, _ => .nil
  | _, _, _ + 1, .nil => .nil
  | _, _, n + 1, .cons h t => .cons h (HasAll.take n t)
theorem HasAll.drop : ∀ {vs : List V} {ds : List PyData} (n : Nat), HasAll K H vs ds → HasAll K H (vs.drop n) (ds.drop n)
  | _, _, 0, h => h
  | _, _, _ + 1, .nil => .nil
  | _, _, n + 1, .cons _ t => HasAll.drop n t
theorem HasAll.one {v : V} {d : PyData} (h : Has K H v d) : HasAll K H [v] [d] := .cons h .nil
theorem HasAll.reverse {vs : List V} {ds : List PyData} (h : HasAll K H vs ds) : HasAll K H vs.reverse ds.reverse := by
  induction ds generalizing vs with
  | nil => cases h; exact .nil
  | cons d ds ih =>
    cases h with
    | cons h t =>
      rw [List.reverse_cons, List.reverse_cons]
      exact (ih t).append (.one h)
theorem HasAll.rep {vs : List V} {ds : List PyData} (h : HasAll K H vs ds) : ∀ n : Nat, HasAll K H (List.replicate n vs).flatten (List.replicate n ds).flatten
  | 0 => .nil
  | n + 1 => by
    rw [List.replicate_succ, List.replicate_succ, List.flatten_cons, List.flatten_cons]
    exact h.append (HasAll.rep h n)
theorem HasAll.ints : ∀ ns : List Int, HasAll K H (ns.map V.int) (ns.map PyData.int)
  | [] => .nil
  | n :: ns => .cons (.int n) (HasAll.ints ns)
theorem HasAll.strs : ∀ ns : List Str, HasAll K H (ns.map V.str) (ns.map PyData.str)
  | [] => .nil
  | n :: ns => .cons (.str n) (HasAll.strs ns)
end
/-- .. readable: the outermost list may still be written by its owner -/
def HasR (K : PySem.W.Frag) (H : Hp) (v : V) : PyData → Prop
  | .list ds => ∃ a vs, v = .ref a ∧ Rd H a (.lst vs) ∧ HasAll K H vs ds
  | d => Has K H v d
theorem Has.r {K : PySem.W.Frag} {H : Hp} {v : V} {d : PyData} (h : Has K H v d) : HasR K H v d := by
  cases h with
  | lst h t => exact ⟨_, _, rfl, h.rd, t⟩
  | non => exact .non
  | bl b => exact .bl b
  | int i => exact .int i
  | str x => exact .str x
  | tup h t => exact .tup h t
theorem HasR.dp {K : PySem.W.Frag} {H : Hp} {v : V} {d : PyData} (h : HasR K H v d) : Dp K H v d := by
  cases d with
  | list ds =>
    obtain ⟨a, vs, rfl, h1, h2⟩ := h
    exact .lst (rd_sq h1) h2.dp
  | _ => exact Has.dp h
theorem HasR.same {K : PySem.W.Frag} {H H' : Hp} {v : V} {d : PyData} (e : Same H H') (h : HasR K H v d) : HasR K H' v d := by
  cases d with
  | list ds =>
    obtain ⟨a, vs, rfl, h1, h2⟩ := h
    exact ⟨a, vs, rfl, same_rd e h1, h2.ext (same_ext e)⟩
  | _ => exact Has.ext (same_ext e) h
theorem HasR.intE {K : PySem.W.Frag} {H : Hp} {v : V} {i : Int} (h : HasR K H v (.int i)) : v = .int i := by cases (show Has K H v (.int i) from h); rfl
theorem HasR.strE {K : PySem.W.Frag} {H : Hp} {v : V} {x : Str} (h : HasR K H v (.str x)) : v = .str x := by cases (show Has K H v (.str x) from h); rfl
theorem HasR.blE {K : PySem.W.Frag} {H : Hp} {v : V} {b : Bool} (h : HasR K H v (.bool b)) : v = .bl b := by cases (show Has K H v (.bool b) from h); rfl
theorem HasR.nonE {K : PySem.W.Frag} {H : Hp} {v : V} (h : HasR K H v .none) : v = .non := by cases (show Has K H v .none from h); rfl
theorem HasR.tupE {K : PySem.W.Frag} {H : Hp} {v : V} {ds : List PyData} (h : HasR K H v (.tuple ds)) : ∃ a xs, v = .ref a ∧ Tp H a xs ∧ HasAll K H xs ds := by
  cases (show Has K H v (.tuple ds) from h) with
  | tup h1 t => exact ⟨_, _, rfl, h1, t⟩
theorem HasR.lstE {K : PySem.W.Frag} {H : Hp} {v : V} {ds : List PyData} (h : HasR K H v (.list ds)) : ∃ a xs, v = .ref a ∧ Rd H a (.lst xs) ∧ HasAll K H xs ds := h

/-! ### a list is frozen -/
theorem freeze {X : Cx} {pins : List (Addr × Obj)} {σ : L2.St} {H : Hp} {s : Shared} {a : Addr} {xs : List V} (I : Inv X pins σ H s) (h : H a = some (.lst xs)) :
    ∃ o, Inv X pins σ (upd H a (.frz o (.lst xs))) s := by
  obtain ⟨z, its, n, rv, ho⟩ := (show ObjOk X.prog X.w H s.heap a (.lst xs) from I.hok a _ h)
  refine ⟨{ cls := .type "list", data := .seq its.toArray n }, ?_⟩
  have ne : ∀ b, H b = none → b ≠ a := fun b q z => by rw [z, h] at q; cases q
  have ne2 : ∀ b u, H b = some u → u ≠ .lst xs → b ≠ a := fun b u q d z => by rw [z, h] at q; exact d (Option.some.inj q).symm
  refine ⟨I.ok, I.os, I.bare, ⟨I.base.keep, I.base.slot, fun b o e n hx => ?_, I.base.there, fun b ys e => ?_, fun b o u e => ?_, fun b ps e => ?_⟩, I.loc, I.cell, ?_, fun x c e => ?_, fun p hp => ?_, fun b u e => ?_, I.len⟩
  · have q := I.base.free b o e n hx
    rw [upd_ne (ne b q)]; exact q
  · have q := I.base.tups b ys e
    rw [upd_ne (ne2 b _ q (by intro z; cases z))]; exact q
  · have q := I.base.frzs b o u e
    rw [upd_ne (ne2 b _ q (by intro z; cases z))]; exact q
  · obtain ⟨m, q⟩ := I.base.tbls b ps e
    exact ⟨m, by rw [upd_ne (ne2 b _ q (by intro z; cases z))]; exact q⟩
  · rw [upd_ne (ne _ I.free)]; exact I.free
  · have q := I.freeC x c e
    rw [upd_ne (ne _ q)]; exact q
  · obtain ⟨e, q, r1, r2, r3⟩ := I.pin p hp
    exact ⟨e, by rw [upd_ne (ne _ q)]; exact q, r1, r2, r3⟩
  · by_cases hb : b = a
    · subst hb
      rw [upd_same] at e; cases e
      exact ⟨ho, z, its, n, rv, ho⟩
    · rw [upd_ne hb] at e
      exact (I.hok b u e).stay (fun c v _ q => q) (fun c q => by rw [upd_ne (ne2 c _ q (by intro z; cases z))]; exact q) fun c ys q => by rw [upd_ne (ne2 c _ q (by intro z; cases z))]; exact q
theorem ext_freeze {H : Hp} {a : Addr} {xs : List V} {o : Obj} (h : H a = some (.lst xs)) : Ext H (upd H a (.frz o (.lst xs))) := by
  refine ⟨fun b ys q => ?_, fun b o' u q => ?_⟩
  · rw [upd_ne (by intro z; rw [z, h] at q; cases q)]; exact q
  · rw [upd_ne (by intro z; rw [z, h] at q; cases q)]; exact q
theorem ep_freeze {X : Cx} {pins : List (Addr × Obj)} {σ : L2.St} {Q : VK} {u : Value} {s : Shared}
    (h : EP X pins σ (fun v H' => ∃ a xs, v = .ref a ∧ H' a = some (.lst xs) ∧ ∀ o, Q v (upd H' a (.frz o (.lst xs)))) u s) : EP X pins σ Q u s := by
  obtain ⟨v, H', I, r, a, xs, e, ha, q⟩ := h
  obtain ⟨o, I'⟩ := freeze I ha
  exact ⟨v, _, I', r, q o⟩
theorem same_upd {H : Hp} {p : Addr} (h : H p = none) (o : HO) : Same H (upd H p o) := fun b u q => by rw [upd_ne (ne_of_none q h)]; exact q
theorem same_frz {H H' : Hp} {a : Addr} {xs : List V} {o : Obj} (e : Same H H') (h : H a = none) : Same H (upd H' a (.frz o (.lst xs))) := fun b u q => by
  rw [upd_ne (ne_of_none q h)]; exact e b u q
theorem pe_mono {X : Cx} {e : Expr} {t t' : TE} (h : PE X e t) (m : ∀ σ H Q, t' σ H Q → t σ H Q) : PE X e t' := ⟨fun pins s σ H Q I q => h.run pins s σ H Q I (m σ H Q q)⟩
theorem pt_mono {X : Cx} {e : Expr} {t t' : TT} (h : PT X e t) (m : ∀ σ H Q, t' σ H Q → t σ H Q) : PT X e t' := ⟨fun pins s σ H Q I q => h.run pins s σ H Q I (m σ H Q q)⟩
theorem pw_mono {X : Cx} {e : Expr} {t t' : TT} (h : PW X e t) (m : ∀ σ H Q, t' σ H Q → t σ H Q) : PW X e t' := ⟨fun wh pins s σ H Q I q => h.run wh pins s σ H Q I (m σ H Q q)⟩
theorem ps_mono {X : Cx} {e : Stmt} {t t' : TS} (h : PS X e t) (m : ∀ D σ H, t' D σ H → t D σ H) : PS X e t' := ⟨fun pins s σ H D I q => h.run pins s σ H D I (m D σ H q)⟩
theorem pss_mono {X : Cx} {e : List Stmt} {t t' : TS} (h : PSs X e t) (m : ∀ D σ H, t' D σ H → t D σ H) : PSs X e t' := ⟨fun pins s σ H D I q => h.run pins s σ H D I (m D σ H q)⟩
theorem pa_mono {X : Cx} {es : List Expr} {t t' : TA} (h : PA X es t) (m : ∀ σ H Q, t' σ H Q → t σ H Q) : PA X es t' := ⟨fun p pins s σ H Q I q => h.run p pins s σ H Q I (m σ H Q q)⟩
theorem pe_freeze {X : Cx} {e : Expr} {t : TE} (h : PE X e t) : PE X e (fun σ H Q => t σ H fun v H' => ∃ a xs, v = .ref a ∧ H' a = some (.lst xs) ∧ ∀ o, Q v (upd H' a (.frz o (.lst xs)))) :=
  ⟨fun pins s σ H Q I q => thn (h.run pins s σ H _ I q) fun _ _ z => ep_freeze z⟩
end Lr
namespace Lr
open PySem PySem.Spec PyProof.Rows L2
/-! ### tuples are laid frozen: their dict is known -/
abbrev tO (its : List Value) : Obj := { cls := .type "tuple", data := .seq its.toArray }
section
variable {X : Cx} {pins : List (Addr × Obj)} {σ : L2.St} {H : Hp} {s : Shared}
theorem laid_t {its : List Value} {xs : List V} (I : Inv X pins σ H s) (r : Vals xs its) (hz : xs.length ≤ sizeLine) : Inv X pins σ (upd H s.heap.objs.size (.frz (tO its) (.tup xs))) { s with heap := s.heap.push (tO its) } :=
  I.laid (t' := s.toks) (fun b ob q => Heap.get?_push_of_some _ q) (Nat.le_refl _) ⟨Heap.get?_push_size _ rfl, hz, its, r, IsTup.new _ _⟩
end
/-- a new tuple -/
def nT (H : Hp) (xs : List V) (Q : VK) : Prop := ∀ p o, H p = none → o.dict = none → Q (.ref p) (upd H p (.frz o (.tup xs)))
section
variable {X : Cx} {pos : Pos}
def rCatF (K : PySem.W.Frag) : R2 := fun x y H Q => ∃ a b xs ys, x = .ref a ∧ y = .ref b ∧ SqT K H a xs ∧ SqT K H b ys ∧ xs.length + ys.length ≤ sizeLine ∧ (xs = [] → Q (.ref b) H) ∧ (xs ≠ [] → ys = [] → Q (.ref a) H) ∧ (xs ≠ [] → ys ≠ [] → nT H (xs ++ ys) Q)
theorem op_catF : OpR X (binaryOp .Add) (rCatF X.K) := by
  intro pins s σ H x y v u Q I rx ry h
  obtain ⟨a, b, xs, ys, rfl, rfl, ha, hb, hz, q0, q1, q2⟩ := h
  cases rx
  cases ry
  obtain ⟨i1, r1, p1, _⟩ := I.tuple ha
  obtain ⟨i2, r2, p2, _⟩ := I.tuple hb
  by_cases hx : xs = []
  · subst hx
    cases r1
    exact cat_tup0 p1 p2 ⟨.ref b, H, I, rfl, q0 rfl⟩
  · exact HT.cat_tup p1 p2 (fun z => hx (r1.nil_iff.mp z)) (fun z => ⟨.ref a, H, I, rfl, q1 hx (r2.nil_iff.mp z)⟩)
      (fun z => ⟨.ref _, _, laid_t I (r1.append r2) (by rw [List.length_append]; exact hz), rfl, q2 hx (fun w => z (r2.nil_iff.mpr w)) _ _ (I.hok.fresh (Nat.le_refl _)) rfl⟩) (by rw [← r1.length, ← r2.length]; exact hz)
def rSlF (K : PySem.W.Frag) : V → Option Int → Option Int → Hp → VK → Prop := fun x lo hi H Q => ∃ a xs, x = .ref a ∧ SqT K H a xs ∧
  (HT.sIx xs.length 0 lo = 0 ∧ HT.sIx xs.length xs.length hi = xs.length → Q (.ref a) H) ∧ (¬ (HT.sIx xs.length 0 lo = 0 ∧ HT.sIx xs.length xs.length hi = xs.length) → nT H (cutV xs lo hi) Q)
theorem sl_tupF : SlR X (rSlF X.K) := by
  intro pins s σ H x v vl vu lo hi sl Q I rx hs pl pu h
  obtain ⟨a, xs, rfl, hx, q1, q2⟩ := h
  cases rx
  obtain ⟨its, r, ht, hz⟩ := I.tuple hx
  have hlen : its.toArray.size = xs.length := by rw [List.size_toArray]; exact r.length.symm
  refine ⟨"tuple", _, PyProof.Rows.slot_tuple_getitem.lookup, ht.typeIs, ?_⟩
  by_cases hw : HT.sIx xs.length 0 lo = 0 ∧ HT.sIx xs.length xs.length hi = xs.length
  · exact getItem_tuple_whole ht hs pl pu (by rw [hlen]; exact hw) ⟨.ref a, H, I, rfl, q1 hw⟩
  · refine HT.getItem_tuple_cut ht hs pl pu (by rw [hlen]; exact hw) ?_ (by rw [hlen]; exact hz)
    rw [hlen]
    exact ⟨.ref _, _, laid_t I ((r.drop (HT.sIx xs.length 0 lo)).take (HT.sIx xs.length xs.length hi - HT.sIx xs.length 0 lo)) (Nat.le_trans (cutV_length xs lo hi) hz), rfl, q2 hw _ _ (I.hok.fresh (Nat.le_refl _)) rfl⟩
def tTupF (t : TA) : TE := fun σ H Q => t σ H fun vs H1 => vs.length ≤ sizeLine ∧ nT H1 vs Q
theorem pe_tupF {es : List Expr} {t : TA} {x1} (h : PA X es t) : PE X (.Tuple es x1 pos) (tTupF t) := by
  refine ⟨fun pins s σ H Q I q => Tuple_ (thn (h.run _ pins s σ H _ I q) fun us s1 ⟨vs, H1, I1, r1, hz, q1⟩ => ?_)⟩
  exact wpAny_newObj_type ⟨.ref _, _, laid_t I1 r1 hz, rfl, q1 _ _ (I1.hok.fresh (Nat.le_refl _)) rfl⟩ (by show us.toArray.size ≤ sizeLine; rw [List.size_toArray, ← r1.length]; exact hz)
theorem call_tupF : CallR X (.type "tuple") (fun xs H Q => ∃ p ys, xs = [.ref p] ∧ ((SqL X.K H p ys ∧ nT H ys Q) ∨ (SqT X.K H p ys ∧ Q (.ref p) H))) := by
  intro pins s σ H xs us Q I r h
  obtain ⟨p, ys, rfl, h⟩ := h
  obtain ⟨u, rfl, rx⟩ := vals1 r
  cases rx
  rcases h with ⟨hq, q⟩ | ⟨hq, q⟩
  · obtain ⟨its, r', pl, hz⟩ := I.list hq
    have hlen := r'.length
    refine call_tuple_list pl.isList (fun h' kp => ?_) (by simp only [List.size_toArray] <;> omega)
    have I1 : Inv X pins σ H { s with heap := h' } := I.kept (t' := s.toks) kp
    exact ⟨.ref h'.objs.size, _, laid_t I1 r' hz, rfl, q _ _ (I1.hok.fresh (Nat.le_refl _)) rfl⟩
  · obtain ⟨its, r', pl, hz⟩ := I.tuple hq
    exact call_tuple_same pl ⟨.ref p, H, I, rfl, q⟩
end
end Lr
namespace Lr
open PySem PySem.Spec PyProof.Rows L2

/-! ### the small language -/
inductive Bop | add | sub | mul | fdiv | mod
  deriving DecidableEq
inductive Cop | eq | ne | lt | le | gt | ge | isin | notin | is_ | isnot
  deriving DecidableEq
inductive Ty | str | tuple | int | bool | list
  deriving DecidableEq
inductive Bi | len | tuple | list | int | sum | any | all | min1 | max1 | max2 | abs | sorted | sortedStr | sortedSet | lenSet | str | join | split | index
  deriving DecidableEq
inductive Tgt | name (i : Nat) | tup (is : List Nat)
  deriving DecidableEq
mutual
inductive Ex where
  | var (i : Nat)
  | lit (d : PyData)
  | glob (x : Str)
  | tup (es : Exs)
  | lst (es : Exs)
  | bin (op : Bop) (a b : Ex)
  | cmp (op : Cop) (a b : Ex)
  | chain (op op' : Cop) (a b c : Ex)
  | and (a b : Ex)
  | or (a b : Ex)
  | not (a : Ex)
  | neg (a : Ex)
  | idx (a b : Ex)
  | slice (a : Ex) (lo hi : Exo)
  | rev (a : Ex)
  | isi (t : Ty) (a : Ex)
  | call (f : Str) (es : Exs)
  | bi (b : Bi) (es : Exs)
  | lc (elt : Ex) (tg : Tgt) (it : Itx) (c : Ex)
  | dget (ks : List Str) (vs : Exs) (k : Ex) (d : Exo)
inductive Exs where
  | nil
  | cons (e : Ex) (es : Exs)
inductive Exo where
  | non
  | som (e : Ex)
inductive Itx where
  | seq (e : Ex)
  | range1 (a : Ex)
  | range2 (a b : Ex)
  | enum (a : Ex)
  | zip (a b : Ex)
end
mutual
inductive S where
  | pass
  | ret (e : Ex)
  | set (i : Nat) (e : Ex)
  | setF (i : Nat) (e : Ex)
  | setT (is : List Nat) (e : Ex)
  | setP (is : List Nat) (es : Exs)
  | append (i : Nat) (e : Ex)
  | extend (i : Nat) (e : Ex)
  | dnew (i : Nat) (es : Exs)
  | dput (i : Nat) (e : Ex)
  | prim (p : (Str → List PyData → Option PyData) → List PyData → Option PyData)
  | ife (c : Ex) (a b : Ss)
  | for_ (tg : Tgt) (it : Itx) (body : Ss)
  | while_ (c : Ex) (body : Ss)
  | brk
  | cont
inductive Ss where
  | nil
  | cons (s : S) (r : Ss)
end

/-! ### what it says -/
inductive Slot | none | val (d : PyData) | own (xs : List PyData) | keys (ks : List PyData)
abbrev Rho := List Slot
structure Cfg where
  call : Str → List PyData → Option PyData
  fuel : Nat
  glob : Str → Option PyData

/-- a test that the kernel does not work out -/
noncomputable def decC (p : Prop) : Bool := @decide p (Classical.propDecidable p)
theorem decC_eq (p : Prop) : (decC p = true) = p := propext ⟨fun h => @of_decide_eq_true p (Classical.propDecidable p) h, fun h => @decide_eq_true p (Classical.propDecidable p) h⟩
theorem decC_t {p : Prop} (h : p) : decC p = true := (decC_eq p).symm ▸ h
noncomputable section
def szOk (n : Nat) : Bool := decC (n ≤ 16777216)
def readS (m : Bool) (ρ : Rho) (i : Nat) : Option PyData := match ρ[i]? with
  | some (.val d) => some d
  | some (.own xs) => if m then some (.list xs) else Option.none
  | _ => Option.none
def mulOk (i j : Int) : Bool := decC ((-(2 ^ 64) < i ∧ i < 2 ^ 64) ∨ (-(2 ^ 64) < j ∧ j < 2 ^ 64))
def addEv : PyData → PyData → Option PyData
  | .int i, .int j => some (.int (i + j))
  | .str x, .str y => if szOk (x.length + y.length) then some (.str (x ++ y)) else Option.none
  | .tuple xs, .tuple ys => if szOk (xs.length + ys.length) then some (.tuple (xs ++ ys)) else Option.none
  | .list xs, .list ys => if szOk (xs.length + ys.length) then some (.list (xs ++ ys)) else Option.none
  | _, _ => Option.none
def subEv : PyData → PyData → Option PyData
  | .int i, .int j => some (.int (i - j))
  | _, _ => Option.none
def repOk (n : Nat) (k : Int) : Bool := decC (-1000 ≤ k ∧ k ≤ 1000 ∧ n ≤ 1000)
def mulEv : PyData → PyData → Option PyData
  | .int i, .int j => if mulOk i j then some (.int (i * j)) else Option.none
  | .tuple xs, .int k => if repOk xs.length k then some (.tuple (List.replicate k.toNat xs).flatten) else Option.none
  | .list xs, .int k => if repOk xs.length k then some (.list (List.replicate k.toNat xs).flatten) else Option.none
  | _, _ => Option.none
def fdivEv : PyData → PyData → Option PyData
  | .int i, .int j => if decide (0 < j) && decide (j < 1073741824) then some (.int (i / j)) else Option.none
  | _, _ => Option.none
def modEv : PyData → PyData → Option PyData
  | .int i, .int j => if decide (0 < j) then some (.int (i % j)) else Option.none
  | _, _ => Option.none
def binEv : Bop → PyData → PyData → Option PyData
  | .add => addEv
  | .sub => subEv
  | .mul => mulEv
  | .fdiv => fdivEv
  | .mod => modEv
def isinEv (d : PyData) : PyData → Option Bool
  | .list ds => if SeqAt.shaped d && SeqAt.shaped (.list ds) then some (ds.any fun z => PyData.eqv z d) else Option.none
  | .tuple ds => if SeqAt.shaped d && SeqAt.shaped (.tuple ds) then some (ds.any fun z => PyData.eqv z d) else Option.none
  | .str z => (match d with
    | .str ⟨⟨[c]⟩⟩ => some (decide (c ∈ z.cps.toList))
    | _ => Option.none)
  | _ => Option.none
def eqEv (d e : PyData) : Option Bool := if SeqAt.shaped d && SeqAt.shaped e then some (PyData.eqv d e) else Option.none
def neEv (d e : PyData) : Option Bool := if SeqAt.shaped d && SeqAt.shaped e then some (!PyData.eqv d e) else Option.none
def isNoneD : PyData → Bool
  | .none => true
  | _ => false
/-- what can be compared, sorted -/
def ltOk (d e : PyData) : Bool := PySem.W.alike d e && (!isNoneD d && decide (d.depth ≤ 64))
def ltEv : PyData → PyData → Option Bool
  | .int i, .int j => some (decide (i < j))
  | d, e => if ltOk d e then some (PySem.W.dataLt d e) else Option.none
def leEv : PyData → PyData → Option Bool
  | .int i, .int j => some (decide (i ≤ j))
  | .str x, .str y => some (!decide (y.cps.toList < x.cps.toList))
  | _, _ => Option.none
def gtEv : PyData → PyData → Option Bool
  | .int i, .int j => some (decide (j < i))
  | _, _ => Option.none
def geEv : PyData → PyData → Option Bool
  | .int i, .int j => some (decide (j ≤ i))
  | _, _ => Option.none
def isEv : PyData → PyData → Option Bool
  | .bool a, .bool b => some (decide (a = b))
  | d, .none => some (isNoneD d)
  | _, _ => Option.none
def isnotEv : PyData → PyData → Option Bool
  | .bool a, .bool b => some (!decide (a = b))
  | d, .none => some (!isNoneD d)
  | _, _ => Option.none
def notinEv (d e : PyData) : Option Bool := (isinEv d e).map not
def cmpEv : Cop → PyData → PyData → Option Bool
  | .eq => eqEv
  | .ne => neEv
  | .lt => ltEv
  | .le => leEv
  | .gt => gtEv
  | .ge => geEv
  | .isin => isinEv
  | .notin => notinEv
  | .is_ => isEv
  | .isnot => isnotEv
def idxEv : PyData → PyData → Option PyData
  | .list ds, .int i => atI ds i
  | .tuple ds, .int i => atI ds i
  | .str z, .int i => if szOk z.length then (atI z.cps.toList i).map fun c => .str ⟨#[c]⟩ else Option.none
  | _, _ => Option.none
def cutA {α : Type} (xs : List α) (lo hi : Option Int) : List α := (xs.drop (HT.sIx xs.length 0 lo)).take (HT.sIx xs.length xs.length hi - HT.sIx xs.length 0 lo)
def sliceEv (lo hi : Option Int) : PyData → Option PyData
  | .list ds => some (.list (cutA ds lo hi))
  | .tuple ds => some (.tuple (cutA ds lo hi))
  | .str z => if szOk z.length then some (.str ⟨(cutA z.cps.toList lo hi).toArray⟩) else Option.none
  | _ => Option.none
def isiEv : Ty → PyData → Bool
  | .str, .str _ => true
  | .tuple, .tuple _ => true
  | .int, .int _ => true
  | .int, .bool _ => true
  | .bool, .bool _ => true
  | .list, .list _ => true
  | _, _ => false
def revEv : PyData → Option PyData
  | .list ds => some (.list ds.reverse)
  | .tuple ds => some (.tuple ds.reverse)
  | _ => Option.none
def bools : List PyData → Option (List Bool)
  | [] => some []
  | .bool b :: r => (bools r).map (b :: ·)
  | _ => Option.none
def intsD : List PyData → Option (List Int)
  | [] => some []
  | .int i :: r => (intsD r).map (i :: ·)
  | _ => Option.none
def strsD : List PyData → Option (List Str)
  | [] => some []
  | .str i :: r => (strsD r).map (i :: ·)
  | _ => Option.none
def itemsOf : PyData → Option (List PyData)
  | .list ds => some ds
  | .tuple ds => some ds
  | _ => Option.none
def lenEv : List PyData → Option PyData
  | [.list ds] => some (.int ds.length)
  | [.tuple ds] => some (.int ds.length)
  | [.str z] => if szOk z.length then some (.int z.length) else Option.none
  | _ => Option.none
def tupleEv : List PyData → Option PyData
  | [.list ds] => some (.tuple ds)
  | [.tuple ds] => some (.tuple ds)
  | _ => Option.none
def listEv : List PyData → Option PyData
  | [.list ds] => some (.list ds)
  | [.tuple ds] => some (.list ds)
  | _ => Option.none
def intEv : List PyData → Option PyData
  | [.bool b] => some (.int (if b then 1 else 0))
  | [.int i] => some (.int i)
  | _ => Option.none
def absEv : List PyData → Option PyData
  | [.int i] => some (.int (if i < 0 then -i else i))
  | _ => Option.none
def max2Ev : List PyData → Option PyData
  | [.int i, .int j] => some (.int (if j > i then j else i))
  | _ => Option.none
def anyEv : List PyData → Option PyData
  | [.list ds] => (bools ds).map fun bs => .bool (bs.any id)
  | _ => Option.none
def allEv : List PyData → Option PyData
  | [.list ds] => (bools ds).map fun bs => .bool (bs.all id)
  | _ => Option.none
def sumEv : List PyData → Option PyData
  | [.list ds] => (intsD ds).map fun ns => .int ns.sum
  | _ => Option.none
def allAlikeB (ds : List PyData) : Bool := ds.all fun a => ds.all fun b => PySem.W.alike a b
def tupHead : PyData → Bool
  | .tuple (_ :: _) => true
  | _ => false
def plainKey : PyData → Bool
  | .none => false
  | .tuple _ => false
  | _ => true
def mmOk (ds : List PyData) : Bool := allAlikeB ds && (!ds.any isNoneD && decide (PyData.depthAll ds ≤ 64))
def minTail : List PyData → Option PyData
  | [] => Option.none
  | d :: ds => if mmOk (d :: ds) then some (PySem.W.minD d ds) else Option.none
def maxTail : List PyData → Option PyData
  | [] => Option.none
  | d :: ds => if mmOk (d :: ds) then some (PySem.W.maxD d ds) else Option.none
def min1Ev : List PyData → Option PyData
  | [.list ds] => minTail ds
  | [.tuple ds] => minTail ds
  | _ => Option.none
def max1Ev : List PyData → Option PyData
  | [.list ds] => maxTail ds
  | [.tuple ds] => maxTail ds
  | _ => Option.none
def joinOk (sep : Str) (zs : List Str) : Bool := decC ((zs.map (·.length)).sum + zs.length * sep.length ≤ 16777216)
def joinEv : List PyData → Option PyData
  | [.str sep, .list ds] => (strsD ds).bind fun zs => if joinOk sep zs then some (.str (Txt.join sep zs)) else Option.none
  | _ => Option.none
def indexEv : List PyData → Option PyData
  | [.tuple ds, .str z] => (strsD ds).bind fun ys => if z ∈ ys then some (.int (ys.idxOf z : Nat)) else Option.none
  | [.list ds, .str z] => (strsD ds).bind fun ys => if z ∈ ys then some (.int (ys.idxOf z : Nat)) else Option.none
  | _ => Option.none
def splitEv : List PyData → Option PyData
  | [.str a, .str b] => if decide (0 < b.length) && szOk (a.length + 2) then some (.list ((Txt.split a b).map .str)) else Option.none
  | _ => Option.none
/-- how many unlike ones stand among the first -/
def cntN (zs : List Str) : Nat → Nat
  | 0 => 0
  | i + 1 => if (zs.getD i "") ∈ zs.take i then cntN zs i else cntN zs i + 1
def lenSetEv : List PyData → Option PyData
  | [.tuple ds] => (strsD ds).bind fun zs => if decide (zs.length ≤ 1000) then some (.int (cntN zs zs.length : Nat)) else Option.none
  | _ => Option.none
def sortOk (ds : List PyData) : Bool := allAlikeB ds && ((ds.all tupHead || ds.all plainKey) && (decide (PyData.depthAll ds ≤ 64) && szOk ds.length))
def sortD (ds : List PyData) : List PyData := ds.mergeSort (PySem.W.dataLe false id)
def sortedEv : List PyData → Option PyData
  | [.list ds] => if sortOk ds then some (.list (sortD ds)) else Option.none
  | [.tuple ds] => if sortOk ds then some (.list (sortD ds)) else Option.none
  | _ => Option.none
def biEv : Bi → List PyData → Option PyData
  | .len => lenEv
  | .tuple => tupleEv
  | .list => listEv
  | .int => intEv
  | .abs => absEv
  | .max2 => max2Ev
  | .any => anyEv
  | .all => allEv
  | .sum => sumEv
  | .min1 => min1Ev
  | .max1 => max1Ev
  | .join => joinEv
  | .index => indexEv
  | .split => splitEv
  | .sorted => sortedEv
  | .lenSet => lenSetEv
  | _ => fun _ => Option.none
def setAll : Rho → List Nat → List PyData → Rho
  | ρ, i :: is, d :: ds => setAll (ρ.set i (.val d)) is ds
  | ρ, _, _ => ρ
def bindT (ρ : Rho) : Tgt → PyData → Option Rho
  | .name i, d => some (ρ.set i (.val d))
  | .tup is, .tuple ds => if is.length = ds.length then some (setAll ρ is ds) else Option.none
  | .tup is, .list ds => if is.length = ds.length then some (setAll ρ is ds) else Option.none
  | _, _ => Option.none
def lcRun (f : PyData → Option (Option PyData)) : List PyData → Option (List PyData)
  | [] => some []
  | d :: ds => (f d).bind fun y => (lcRun f ds).map fun r => match y with
    | some z => z :: r
    | Option.none => r
def signs (z : Str) : List PyData := z.cps.toList.map fun c => .str ⟨#[c]⟩
def seqItems : PyData → Option (List PyData)
  | .list ds => if szOk ds.length then some ds else Option.none
  | .tuple ds => if szOk ds.length then some ds else Option.none
  | .str z => if szOk z.length then some (signs z) else Option.none
  | _ => Option.none
def rangeD (lo : Int) (n : Nat) : List PyData := (List.range n).map fun (k : Nat) => .int (lo + k)
def rangeEv (lo hi : Int) : Option (List PyData) :=
  if decC (-(2 ^ 62) ≤ lo ∧ lo < 2 ^ 62 ∧ -(2 ^ 62) ≤ hi ∧ hi < 2 ^ 62) && szOk (hi - lo).toNat then some (rangeD lo (hi - lo).toNat) else Option.none
def enumD (ds : List PyData) : List PyData := ds.zipIdx.map fun p => .tuple [.int p.2, p.1]
def enumEv : PyData → Option (List PyData)
  | .list ds => if szOk ds.length then some (enumD ds) else Option.none
  | .tuple ds => if szOk ds.length then some (enumD ds) else Option.none
  | _ => Option.none
def zipD (xs ys : List PyData) : List PyData := List.zipWith (fun x y => .tuple [x, y]) xs ys
def zipEv : PyData → PyData → Option (List PyData)
  | .tuple xs, .tuple ys => if szOk xs.length then some (zipD xs ys) else Option.none
  | _, _ => Option.none
def partEv : Option PyData → Option (Option Int)
  | some (.int i) => some (some i)
  | _ => Option.none
def andD : PyData → Option PyData → Option PyData
  | .bool true, some (.bool k) => some (.bool k)
  | .bool false, _ => some (.bool false)
  | _, _ => Option.none
def orD : PyData → Option PyData → Option PyData
  | .bool false, some (.bool k) => some (.bool k)
  | .bool true, _ => some (.bool true)
  | _, _ => Option.none
def notD : PyData → Option PyData
  | .bool k => some (.bool (!k))
  | _ => Option.none
def negD : PyData → Option PyData
  | .int k => some (.int (-k))
  | _ => Option.none
def condD : PyData → Option PyData → Option (Option PyData)
  | .bool true, y => y.map some
  | .bool false, _ => some Option.none
  | _, _ => Option.none
def range1D : PyData → Option (List PyData)
  | .int j => rangeEv 0 j
  | _ => Option.none
def range2D : PyData → PyData → Option (List PyData)
  | .int i, .int j => rangeEv i j
  | _, _ => Option.none
def tupD (ds : List PyData) : Option PyData := if szOk ds.length then some (.tuple ds) else Option.none
def lstD (ds : List PyData) : Option PyData := if szOk ds.length then some (.list ds) else Option.none
def chainD (y : PyData) (op' : Cop) (z : Option PyData) : Bool → Option PyData
  | true => z.bind fun z => (cmpEv op' y z).map .bool
  | false => some (.bool false)
def dlook : List Str → List PyData → Str → Option PyData → Option PyData
  | k :: ks, w :: ws, z, acc => dlook ks ws z (if z = k then some w else acc)
  | _, _, _, acc => acc
def dgetEv (ks : List Str) (ws : List PyData) (df : Option PyData) : PyData → Option PyData
  | .str z => dlook ks ws z df
  | _ => Option.none
mutual
def ev (m : Bool) (c : Cfg) (ρ : Rho) : Ex → Option PyData
  | .var i => readS m ρ i
  | .lit d => some d
  | .glob x => c.glob x
  | .tup es => (evs false c ρ es).bind tupD
  | .lst es => (evs false c ρ es).bind lstD
  | .bin op a b => (ev true c ρ a).bind fun x => (ev true c ρ b).bind fun y => binEv op x y
  | .cmp op a b => (ev true c ρ a).bind fun x => (ev true c ρ b).bind fun y => (cmpEv op x y).map .bool
  | .chain op op' a b e => (ev true c ρ a).bind fun x => (ev true c ρ b).bind fun y => (cmpEv op x y).bind (chainD y op' (ev true c ρ e))
  | .and a b => (ev true c ρ a).bind fun x => andD x (ev true c ρ b)
  | .or a b => (ev true c ρ a).bind fun x => orD x (ev true c ρ b)
  | .not a => (ev true c ρ a).bind notD
  | .neg a => (ev true c ρ a).bind negD
  | .idx a b => (ev true c ρ a).bind fun x => (ev true c ρ b).bind fun y => idxEv x y
  | .slice a lo hi => (ev true c ρ a).bind fun x => (evPart c ρ lo).bind fun l => (evPart c ρ hi).bind fun h => sliceEv l h x
  | .rev a => (ev true c ρ a).bind revEv
  | .isi t a => (ev true c ρ a).bind fun x => some (.bool (isiEv t x))
  | .call f es => (evs false c ρ es).bind fun ds => c.call f ds
  | .bi b es => (evs true c ρ es).bind fun ds => biEv b ds
  | .lc elt tg it co => (evIt true c ρ it).bind fun ds => (lcRun (fun d => (bindT ρ tg d).bind fun ρ' => (ev true c ρ' co).bind fun k => condD k (ev false c ρ' elt)) ds).map .list
  | .dget ks vs k d => (evs false c ρ vs).bind fun ws => (ev true c ρ k).bind fun kd => (evO c ρ d).bind fun df => dgetEv ks ws df kd
def evO (c : Cfg) (ρ : Rho) : Exo → Option (Option PyData)
  | .non => some Option.none
  | .som e => (ev false c ρ e).map some
def evPart (c : Cfg) (ρ : Rho) : Exo → Option (Option Int)
  | .non => some Option.none
  | .som e => partEv (ev true c ρ e)
def evs (m : Bool) (c : Cfg) (ρ : Rho) : Exs → Option (List PyData)
  | .nil => some []
  | .cons e es => (ev m c ρ e).bind fun d => (evs m c ρ es).bind fun ds => some (d :: ds)
def evIt (m : Bool) (c : Cfg) (ρ : Rho) : Itx → Option (List PyData)
  | .seq e => (ev m c ρ e).bind seqItems
  | .range1 a => (ev true c ρ a).bind range1D
  | .range2 a b => (ev true c ρ a).bind fun x => (ev true c ρ b).bind fun y => range2D x y
  | .enum a => (ev m c ρ a).bind enumEv
  | .zip a b => (ev true c ρ a).bind fun x => (ev true c ρ b).bind fun y => zipEv x y
end
inductive Out | nx (ρ : Rho) | brk (ρ : Rho) | cont (ρ : Rho) | ret (d : PyData)
def ownD : Option Slot → Option (List PyData)
  | some (.own xs) => some xs
  | _ => Option.none
def sealV (ρ : Rho) (i : Nat) : Option (List PyData) → Rho
  | some xs => ρ.set i (.val (.list xs))
  | Option.none => ρ
def sealE (ρ : Rho) : Ex → Rho
  | .var i => sealV ρ i (ownD ρ[i]?)
  | _ => ρ
def sealIt (ρ : Rho) : Itx → Rho
  | .seq e => sealE ρ e
  | _ => ρ
def loopD (next : Rho → Option Out) : Out → Option Out
  | .nx ρ' => next ρ'
  | .cont ρ' => next ρ'
  | .brk ρ' => some (.nx ρ')
  | .ret d => some (.ret d)
def seqD (next : Rho → Option Out) : Out → Option Out
  | .nx ρ' => next ρ'
  | o => some o
def ifD (a b : Option Out) : PyData → Option Out
  | .bool true => a
  | .bool false => b
  | _ => Option.none
def forRun (tg : Tgt) (body : Rho → Option Out) : List PyData → Rho → Option Out
  | [], ρ => some (.nx ρ)
  | d :: ds, ρ => (bindT ρ tg d).bind fun ρ1 => (body ρ1).bind (loopD (forRun tg body ds))
def whileRun (co : Rho → Option PyData) (body : Rho → Option Out) : Nat → Rho → Option Out
  | 0, _ => Option.none
  | n + 1, ρ => (co ρ).bind (ifD ((body ρ).bind (loopD (whileRun co body n))) (some (.nx ρ)))
def listOf : PyData → Option (List PyData)
  | .list ds => some ds
  | _ => Option.none
def valsR : Rho → Option (List PyData)
  | [] => some []
  | .val d :: r => (valsR r).bind fun ds => some (d :: ds)
  | _ => Option.none
mutual
def ex (c : Cfg) (ρ : Rho) : S → Option Out
  | .pass => some (.nx ρ)
  | .ret e => (ev false c (sealE ρ e) e).bind fun d => some (.ret d)
  | .set i e => (ev false c (sealE ρ e) e).bind fun d => some (.nx ((sealE ρ e).set i (.val d)))
  | .setF i e => (ev false c ρ e).bind fun d => (listOf d).bind fun ds => some (.nx (ρ.set i (.own ds)))
  | .setT is e => (ev false c ρ e).bind fun d => (bindT ρ (.tup is) d).bind fun ρ' => some (.nx ρ')
  | .setP is es => (evs false c ρ es).bind fun ds => if is.length = ds.length then some (.nx (setAll ρ is ds)) else Option.none
  | .append i e => (ownD ρ[i]?).bind fun xs => (ev false c ρ e).bind fun d => if szOk (xs.length + 1) then some (.nx (ρ.set i (.own (xs ++ [d])))) else Option.none
  | .extend i e => (ownD ρ[i]?).bind fun xs => (ev false c ρ e).bind fun d => (listOf d).bind fun ds => if szOk (xs.length + ds.length) then some (.nx (ρ.set i (.own (xs ++ ds)))) else Option.none
  | .dnew i es => Option.none
  | .dput i e => Option.none
  | .prim p => (valsR ρ).bind fun ds => (p c.call ds).bind fun d => some (.ret d)
  | .ife co a b => (ev true c ρ co).bind (ifD (exs c ρ a) (exs c ρ b))
  | .for_ tg it body => (evIt false c (sealIt ρ it) it).bind fun ds => forRun tg (fun ρ' => exs c ρ' body) ds (sealIt ρ it)
  | .while_ co body => whileRun (fun ρ' => ev true c ρ' co) (fun ρ' => exs c ρ' body) c.fuel ρ
  | .brk => some (.brk ρ)
  | .cont => some (.cont ρ)
def exs (c : Cfg) (ρ : Rho) : Ss → Option Out
  | .nil => some (.nx ρ)
  | .cons s r => (ex c ρ s).bind (seqD fun ρ' => exs c ρ' r)
end
/-- a def: its parameters' number, its names' number, its body -/
structure Df where
  ar : Nat
  nn : Nat
  body : Ss
def start0 (d : Df) (ds : List PyData) : Rho := ds.map .val ++ List.replicate (d.nn - ds.length) .none
def runDf (c : Cfg) (d : Df) (ds : List PyData) : Option PyData :=
  if ds.length = d.ar then (exs c (start0 d ds) d.body).bind fun o => match o with
    | .ret r => some r
    | .nx _ => some .none
    | _ => Option.none
  else Option.none
def callAt (T : Str → Option Df) (g : Str → Option PyData) (fuel : Nat) : Nat → Str → List PyData → Option PyData
  | 0, _, _ => Option.none
  | k + 1, f, ds => (T f).bind fun d => runDf ⟨callAt T g fuel k, fuel, g⟩ d ds
end
end Lr
namespace Lr
open PySem PySem.Spec PyProof.Rows L2

theorem szOk_le {n : Nat} (h : szOk n = true) : n ≤ sizeLine := by rw [sizeLine_eq]; unfold szOk at h; rw [decC_eq] at h; exact h
section
variable {X : Cx} {pins : List (Addr × Obj)} {s : Shared} {σ : L2.St} {H : Hp}
theorem rd_obj {a : Addr} {xs : List V} (I : Inv X pins σ H s) (h : Rd H a (.lst xs)) :
    xs.length ≤ sizeLine ∧ ∃ (us : List Value) (m : Nat), Vals xs us ∧ xs.length = us.length ∧ s.heap.get? a = some { cls := .type "list", data := .seq us.toArray m } := by
  obtain ⟨hz, us, m, hv, hg⟩ := h.ok I.hok
  exact ⟨hz, us, m, hv, hv.length, hg⟩
end
section
variable {X : Cx}
/-- two lists one behind the other: a new list -/
def rCatR : R2 := fun x y H Q => ∃ a b xs ys, x = .ref a ∧ y = .ref b ∧ Rd H a (.lst xs) ∧ Rd H b (.lst ys) ∧ xs.length + ys.length ≤ sizeLine ∧ ∀ p, H p = none → Q (.ref p) (upd H p (.lst (xs ++ ys)))
theorem op_catR : OpR X (binaryOp .Add) rCatR := by
  intro pins s σ H x y v u Q I rx ry h
  obtain ⟨a, b, xs, ys, rfl, rfl, ha, hb, hz, q⟩ := h
  cases rx; cases ry
  obtain ⟨_, us, m, r1, l1, g1⟩ := rd_obj I ha
  obtain ⟨_, ws, m', r2, l2, g2⟩ := rd_obj I hb
  have hsz : us.toArray.size + ws.toArray.size ≤ sizeLine := by simp only [List.size_toArray]; omega
  refine PySem.P.add_list g1 g2 ?_ (by simpa using hsz)
  have e0 : us.toArray ++ ws.toArray = (us ++ ws).toArray := by simp
  rw [e0]
  have hn : (xs ++ ys).length ≤ sizeLine := by rw [List.length_append]; exact hz
  exact ⟨.ref _, _, I.lnew (t' := s.toks) (r1.append r2) hn, rfl, q _ I.fresh⟩
/-- xs.extend(ys), ys any readable list -/
def rExtR : V → List V → Hp → VK → Prop := fun x vs H Q => ∃ a b xs ys, x = .ref a ∧ vs = [.ref b] ∧ H a = some (.lst xs) ∧ Rd H b (.lst ys) ∧ xs.length + ys.length ≤ sizeLine ∧ Q .non (upd H a (.lst (xs ++ ys)))
theorem mt_extR : MtM X "list.extend" rExtR := by
  intro pins s σ H x vs v us Q I rx rv h
  obtain ⟨a, b, xs, ys, rfl, rfl, ha, hb, hz, q⟩ := h
  cases rx
  obtain ⟨u, rfl, ru⟩ := rv.one
  cases ru
  obtain ⟨_, ws, m, r1, l1, g1⟩ := rd_obj I (.inl ha)
  obtain ⟨_, ws', m', r2, l2, g2⟩ := rd_obj I hb
  have hsz : ws.toArray.size + ws'.toArray.size ≤ sizeLine := by simp only [List.size_toArray]; omega
  have hno : ¬ (!ws.toArray.isEmpty && Builtin.List.listTooLong (ws.toArray.size + ws'.toArray.size)) = true := by
    rw [notLongL hsz, Bool.and_false]; exact Bool.false_ne_true
  refine call_meets F.slot_list_extend ⟨_, g1, rfl⟩ F.entry_list_extend (F.args_list_extend_2 _ _) (AutoSeq1.list_extend_list_list_0 a ws.toArray m b ws'.toArray m' hno (by simp only [List.size_toArray]; omega) (by omega)) ⟨g1, g2, ?_⟩
  have hn : (xs ++ ys).length ≤ sizeLine := by rw [List.length_append]; exact hz
  exact ⟨.non, _, I.lset (its' := ws ++ ws') ha g1 (by simp) (r1.append r2) hn, rfl, q⟩

/-! ### operators by data -/
def OpD (X : Cx) (f : Value → Value → Sem Value) (g : PyData → PyData → Option PyData) : Prop :=
  ∀ (pins : List (Addr × Obj)) (s : Shared) (σ : L2.St) (H : Hp) (x y : V) (v u : Value) (Q : VK) (d e r : PyData), Inv X pins σ H s → RelV x v → RelV y u → HasR X.K H x d → HasR X.K H y e → g d e = some r →
    (∀ z H', Same H H' → Has X.K H' z r → Q z H') → wpAny (model X.prog X.w) X.A (f v u) (EP X pins σ Q) X.xe s
theorem same_list_frz {K : PySem.W.Frag} {H : Hp} {p : Addr} {vs : List V} {ds : List PyData} (hp : H p = none) (h : HasAll K H vs ds) (o : Obj) :
    Same H (upd (upd H p (.lst vs)) p (.frz o (.lst vs))) ∧ Has K (upd (upd H p (.lst vs)) p (.frz o (.lst vs))) (.ref p) (.list ds) := by
  rw [upd_upd]
  have e := same_upd hp (.frz o (.lst vs))
  exact ⟨e, .lst ⟨o, upd_same⟩ (h.ext (same_ext e))⟩
/-- a rule that lays a new list p, then frozen -/
theorem frz_end {pins : List (Addr × Obj)} {σ : L2.St} {H : Hp} {Q : VK} {p : Addr} {vs : List V} {ds : List PyData} (hp : H p = none) (h : HasAll X.K H vs ds) (q : ∀ z H', Same H H' → Has X.K H' z (.list ds) → Q z H') :
    ∃ a xs, (V.ref p) = .ref a ∧ (upd H p (.lst vs)) a = some (.lst xs) ∧ ∀ o, Q (.ref p) (upd (upd H p (.lst vs)) a (.frz o (.lst xs))) :=
  ⟨p, vs, rfl, upd_same, fun o => let ⟨e, z⟩ := same_list_frz hp h o; q _ _ e z⟩
theorem tup_end {H : Hp} {K : PySem.W.Frag} {Q : VK} {vs : List V} {ds : List PyData} (h : HasAll K H vs ds) (q : ∀ z H', Same H H' → Has K H' z (.tuple ds) → Q z H') : nT H vs Q :=
  fun p o hp ho => q _ _ (same_upd hp _) (.tup ⟨o, upd_same, ho⟩ (h.ext (same_ext (same_upd hp _))))
theorem opD_add : OpD X (binaryOp .Add) addEv := by
  intro pins s σ H x y v u Q d e r I rx ry hx hy he q
  unfold addEv at he
  split at he <;> first | (cases he; done) | skip
  · obtain rfl := hx.intE; obtain rfl := hy.intE
    cases he
    exact op_add pins s σ H _ _ v u Q I rx ry ⟨_, _, rfl, rfl, q _ _ (Same.refl _) (.int _)⟩
  · obtain rfl := hx.strE; obtain rfl := hy.strE
    split at he <;> first | (cases he; done) | skip
    rename_i hz
    cases he
    exact op_add_str pins s σ H _ _ v u Q I rx ry ⟨_, _, rfl, rfl, szOk_le hz, q _ _ (Same.refl _) (.str _)⟩
  · obtain ⟨a, xs, rfl, ha, ta⟩ := hx.tupE
    obtain ⟨b, ys, rfl, hb, tb⟩ := hy.tupE
    split at he <;> first | (cases he; done) | skip
    rename_i hz
    cases he
    have l1 := ta.length
    have l2 := tb.length
    refine op_catF pins s σ H _ _ v u Q I rx ry ⟨a, b, xs, ys, rfl, rfl, ha.sq, hb.sq, by rw [l1, l2]; exact szOk_le hz, fun e => ?_, fun _ e => ?_, fun _ _ => tup_end (ta.append tb) q⟩
    · subst e
      cases ta
      exact q _ _ (Same.refl _) (.tup hb tb)
    · subst e
      cases tb
      rw [List.append_nil] at q
      exact q _ _ (Same.refl _) (.tup ha ta)
  · obtain ⟨a, xs, rfl, ha, ta⟩ := hx.lstE
    obtain ⟨b, ys, rfl, hb, tb⟩ := hy.lstE
    split at he <;> first | (cases he; done) | skip
    rename_i hz
    cases he
    have l1 := ta.length
    have l2 := tb.length
    refine thn (op_catR pins s σ H _ _ v u _ I rx ry ⟨a, b, xs, ys, rfl, rfl, ha, hb, by rw [l1, l2]; exact szOk_le hz, fun p hp => ?_⟩) fun _ _ z => ep_freeze z
    exact frz_end (pins := pins) (σ := σ) hp (ta.append tb) q
theorem opD_sub : OpD X (binaryOp .Sub) subEv := by
  intro pins s σ H x y v u Q d e r I rx ry hx hy he q
  unfold subEv at he
  split at he <;> first | (cases he; done) | skip
  · obtain rfl := hx.intE; obtain rfl := hy.intE
    cases he
    exact op_sub pins s σ H _ _ v u Q I rx ry ⟨_, _, rfl, rfl, q _ _ (Same.refl _) (.int _)⟩
theorem opD_fdiv : OpD X (binaryOp .FloorDiv) fdivEv := by
  intro pins s σ H x y v u Q d e r I rx ry hx hy he q
  unfold fdivEv at he
  split at he <;> first | (cases he; done) | skip
  · obtain rfl := hx.intE; obtain rfl := hy.intE
    split at he <;> first | (cases he; done) | skip
    rename_i hz
    simp only [Bool.and_eq_true, decide_eq_true_eq] at hz
    cases he
    exact op_fdiv pins s σ H _ _ v u Q I rx ry ⟨_, _, rfl, rfl, hz, q _ _ (Same.refl _) (.int _)⟩
theorem opD_mod : OpD X (binaryOp .Mod) modEv := by
  intro pins s σ H x y v u Q d e r I rx ry hx hy he q
  unfold modEv at he
  split at he <;> first | (cases he; done) | skip
  · obtain rfl := hx.intE; obtain rfl := hy.intE
    split at he <;> first | (cases he; done) | skip
    rename_i hz
    simp only [decide_eq_true_eq] at hz
    cases he
    exact op_mod pins s σ H _ _ v u Q I rx ry ⟨_, _, rfl, rfl, hz, q _ _ (Same.refl _) (.int _)⟩
end
end Lr
namespace Lr
open PySem PySem.Spec PyProof.Rows L2
/-! ### a tuple, a list times an int -/
set_option maxHeartbeats 4000000 in
theorem tuple_mul_same (l : Addr) (items : Array Value) (n : Nat) (dd : Option Addr) (sl : Array (Option Value)) (x : Int) (u : Tok) (c0 : (decide (x < -(2 ^ 63)) || decide (x ≥ 2 ^ 63)) = false) (c1 : (items.isEmpty || x == 1) = true) :
    Meets (Builtin.«tuple.__mul__» ⟨[.ref l, .int x u], []⟩) (fun _ R s => s.heap.get? l = some { cls := .type "tuple", dict := dd, data := .seq items n, slots := sl } ∧ R (.ok (.ret (Value.ref l))) s) :=
  .of_wp fun prog w A R s h => by
    obtain ⟨hp, g, d, tk, os⟩ := s
    obtain ⟨hl, h⟩ := h
    have f1 := AutoSeq1.idx_int
    wp_walk using wpAny_loadPart' hl
    repeat (first
      | (refine wpAny_ite_false (decide_eq_false (by rw [c0]; exact Bool.false_ne_true)) ?_; wp_walk using wpAny_loadPart' hl)
      | (refine wpAny_ite_true (decide_eq_true (by rw [c1])) ?_; wp_walk using wpAny_loadPart' hl))
    exact ⟨_, rfl, h⟩
set_option maxHeartbeats 4000000 in
theorem tuple_mul_non (l : Addr) (items : Array Value) (n : Nat) (dd : Option Addr) (sl : Array (Option Value)) (x : Int) (u : Tok) (c0 : (decide (x < -(2 ^ 63)) || decide (x ≥ 2 ^ 63)) = false) (c1 : (items.isEmpty || x == 1) = false) (c2 : (decide (x ≤ 0) || items.isEmpty) = true) :
    Meets (Builtin.«tuple.__mul__» ⟨[.ref l, .int x u], []⟩) (fun _ R s => s.heap.get? l = some { cls := .type "tuple", dict := dd, data := .seq items n, slots := sl } ∧
      R (.ok (.ret (Value.ref s.heap.objs.size))) { s with heap := s.heap.push { cls := Value.type "tuple", data := Data.seq #[] }, toks := s.toks }) :=
  .of_wp fun prog w A R s h => by
    obtain ⟨hp, g, d, tk, os⟩ := s
    obtain ⟨hl, h⟩ := h
    have f1 := AutoSeq1.idx_int
    wp_walk using wpAny_loadPart' hl
    repeat (first
      | (refine wpAny_ite_false (decide_eq_false (by rw [c0]; exact Bool.false_ne_true)) ?_; wp_walk using wpAny_loadPart' hl)
      | (refine wpAny_ite_false (decide_eq_false (by rw [c1]; exact Bool.false_ne_true)) ?_; wp_walk using wpAny_loadPart' hl)
      | (refine wpAny_ite_true (decide_eq_true (by rw [c2])) ?_; wp_walk using wpAny_loadPart' hl)
      | (refine wpAny_ite_false (decide_eq_false (by decide)) ?_; wp_walk using wpAny_loadPart' hl))
    exact ⟨_, rfl, h⟩
def rRepF (K : PySem.W.Frag) : R2 := fun x y H Q => ∃ l k xs, x = .ref l ∧ y = .int k ∧ SqT K H l xs ∧ -1000 ≤ k ∧ k ≤ 1000 ∧ xs.length ≤ 1000 ∧ (xs = [] ∨ k = 1 → Q (.ref l) H) ∧ (¬ (xs = [] ∨ k = 1) → nT H (List.replicate k.toNat xs).flatten Q)
section
variable {X : Cx}
theorem op_repF : OpR X (binaryOp .Mult) (rRepF X.K) := by
  intro pins s σ H x y v u Q I rx ry h
  obtain ⟨l, k, xs, rfl, rfl, hT, h1, h2, hz, q0, q⟩ := h
  cases rx
  obtain ⟨t, rfl⟩ := ry
  obtain ⟨its, r, ⟨⟨cls, dd, data, sl⟩, ho, hc, n, hd⟩, hs⟩ := I.tuple hT
  simp only at hc hd
  subst hc hd
  have hle : its.length = xs.length := r.length.symm
  have c0 : (decide (k < -(2 ^ 63)) || decide (k ≥ 2 ^ 63)) = false := by
    rw [decide_eq_false (by omega), decide_eq_false (by omega)] <;> rfl
  have start : ∀ {Q' : Value → Shared → Prop}, wpAny (model X.prog X.w) X.A (call (.builtin "tuple.__mul__") [.ref l, .int k t]) Q' X.xe s → wpAny (model X.prog X.w) X.A (binaryOp .Mult (.ref l) (.int k t)) Q' X.xe s := fun hq =>
    wpAny_binaryOp_repeat_ref (T := "tuple") (U := "int") (by decide) ⟨_, ho, rfl⟩ (fun s' => typeIs_int s' k t) noFill_tuple_mul F.fills_int_mul F.slot_int_rmul repeat_tuple F.slot_int_index.lookup
      (call_meets F.slot_int_rmul (typeIs_int s k t) F.entry_int_rmul (F.args_int_rmul_2 _ _) (int_rmul_tuple k t l its.toArray n dd sl) ⟨ho, rfl, ⟨_, ho, rfl⟩, hq⟩)
  by_cases hc : xs = [] ∨ k = 1
  · have c1 : (its.toArray.isEmpty || k == 1) = true := by
      rcases hc with e | e
      · subst e
        have : its = [] := List.eq_nil_of_length_eq_zero (by simpa using hle)
        subst this; rfl
      · subst e; simp
    exact start (call_meets F.slot_tuple_mul ⟨_, ho, rfl⟩ F.entry_tuple_mul (F.args_tuple_mul_2 _ _) (tuple_mul_same l its.toArray n dd sl k t c0 c1) ⟨ho, .ref l, H, I, rfl, q0 hc⟩)
  · have hne : xs ≠ [] := fun e => hc (.inl e)
    have hn : its ≠ [] := fun e => hne (by
      rw [e] at hle
      exact List.eq_nil_of_length_eq_zero hle.symm)
    have hi : its.toArray.isEmpty = false := by
      cases its with
      | nil => exact absurd rfl hn
      | cons a b => rfl
    have c1 : (its.toArray.isEmpty || k == 1) = false := by
      rw [hi, Bool.false_or]
      exact beq_eq_false_iff_ne.mpr fun e => hc (.inr e)
    by_cases hk : k ≤ 0
    · have c2 : (decide (k ≤ 0) || its.toArray.isEmpty) = true := by rw [decide_eq_true hk]; rfl
      refine start (call_meets F.slot_tuple_mul ⟨_, ho, rfl⟩ F.entry_tuple_mul (F.args_tuple_mul_2 _ _) (tuple_mul_non l its.toArray n dd sl k t c0 c1 c2) ⟨ho, ?_⟩)
      have e0 : k.toNat = 0 := by omega
      have q := q hc
      rw [e0] at q
      exact ⟨.ref _, _, laid_t (its := []) (xs := []) I .nil (Nat.zero_le _), rfl, q _ _ (I.hok.fresh (Nat.le_refl _)) rfl⟩
    · have hsz0 : its.toArray.size = xs.length := by rw [List.size_toArray, hle]
      have hm : ((its.toArray.size : Nat) : Int) * k ≤ 1000000 := by
        rw [hsz0]
        have a1 : ((xs.length : Nat) : Int) * k ≤ 1000 * k := Int.mul_le_mul_of_nonneg_right (by omega) (by omega)
        omega
      have flen : (List.replicate k.toNat its).flatten.length ≤ sizeLine := by
        rw [PyProof.Rows.lm_len_rep_flat, hle, sizeLine_eq]
        have a1 : k.toNat * xs.length ≤ 1000 * 1000 := Nat.mul_le_mul (by omega) hz
        omega
      have c2 : (decide (k ≤ 0) || its.toArray.isEmpty) = false := by
        rw [hi, Bool.or_false]
        exact decide_eq_false (by omega)
      have c4 : Builtin.Tuple.tupleTooMany (((its.toArray.size : Nat) : Int) * k) = false := by
        unfold Builtin.Tuple.tupleTooMany
        rw [sizeLine_eq]
        exact decide_eq_false (by omega)
      refine start (call_meets F.slot_tuple_mul ⟨_, ho, rfl⟩ F.entry_tuple_mul (F.args_tuple_mul_2 _ _) (tuple_mulW l its.toArray n dd sl k t c0 c1 c2 (by omega) c4 (by rw [size_rep, List.size_toArray]; exact flen)) ⟨ho, ?_⟩)
      rw [size_rep]
      refine ⟨.ref s.heap.objs.size, _, laid_t I (r.rep k.toNat) ?_, rfl, q hc _ _ (I.hok.fresh (Nat.le_refl _)) rfl⟩
      rw [PyProof.Rows.lm_len_rep_flat, sizeLine_eq]; have a1 : k.toNat * xs.length ≤ 1000 * 1000 := Nat.mul_le_mul (by omega) hz; omega
/-- a readable list times an int -/
def rRepR : R2 := fun x y H Q => ∃ l k xs, x = .ref l ∧ y = .int k ∧ Rd H l (.lst xs) ∧ -1000 ≤ k ∧ k ≤ 1000 ∧ xs.length ≤ 1000 ∧ ∀ p, H p = none → Q (.ref p) (upd H p (.lst (List.replicate k.toNat xs).flatten))
theorem op_repR : OpR X (binaryOp .Mult) rRepR := by
  intro pins s σ H x y v u Q I rx ry h
  obtain ⟨l, k, xs, rfl, rfl, hH, h1, h2, hz, q⟩ := h
  cases rx
  obtain ⟨t, rfl⟩ := ry
  obtain ⟨z, its, n, r, hl, e⟩ := rd_obj I hH
  have hmul : xs.length * k.toNat ≤ sizeLine := by
    rw [sizeLine_eq]
    have a1 : xs.length * k.toNat ≤ 1000 * 1000 := Nat.mul_le_mul hz (by omega)
    omega
  have hlen : its.toArray.size * k.toNat ≤ sizeLine := by rw [List.size_toArray, ← hl]; exact hmul
  have hcap : ¬ its.toArray.size * k.toNat > (2 ^ 63 - 1) / 8 := by
    have : (sizeLine : Nat) ≤ (2 ^ 63 - 1) / 8 := by decide
    omega
  have hfit : ¬ (!Builtin.List.listFitsIndex k) = true := by
    rw [fitsIndex_both (by omega) (by omega)]
    exact Bool.false_ne_true
  have hlong : ¬ Builtin.List.listTooLong (its.toArray.size * k.toNat) = true := by
    rw [notLongL hlen]
    exact Bool.false_ne_true
  have hnew : List.foldl (fun x1 x2 => x1 ++ x2) #[] (List.replicate (if its.toArray.isEmpty = true then 0 else k.toNat) its.toArray) = (List.replicate k.toNat its).flatten.toArray := by
    rw [size_rep]
    cases its with
    | nil => simp
    | cons a r' => rw [if_neg (by simp)]
  refine wpAny_binaryOp_repeat_ref (T := "list") (U := "int") (by decide) ⟨_, e, rfl⟩ (fun s' => typeIs_int s' k t) noFill_list_mul F.fills_int_mul F.slot_int_rmul repeat_list F.slot_int_index.lookup
    (call_meets F.slot_int_rmul (typeIs_int s k t) F.entry_int_rmul (F.args_int_rmul_2 _ _) (int___rmul___int_list k t l its.toArray n)
      ⟨e, rfl, ⟨_, e, rfl⟩, call_meets F.slot_list_mul ⟨_, e, rfl⟩ F.entry_list_mul (F.args_list_mul_2 _ _) (AutoListH.list___mul___list_int_3 l its.toArray n k t hfit hcap hlong) ⟨e, ?_⟩⟩)
  rw [hnew]
  exact ⟨.ref _, _, I.lnew (t' := s.toks) (r.rep k.toNat) (by rw [PyProof.Rows.lm_len_rep_flat, Nat.mul_comm]; exact hmul), rfl, q _ I.fresh⟩
end
end Lr
namespace Lr
open PySem PySem.Spec PyProof.Rows L2
section
variable {X : Cx}
theorem opD_mul : OpD X (binaryOp .Mult) mulEv := by
  intro pins s σ H x y v u Q d e r I rx ry hx hy he q
  unfold mulEv at he
  split at he <;> first | (cases he; done) | skip
  · obtain rfl := hx.intE; obtain rfl := hy.intE
    split at he <;> first | (cases he; done) | skip
    rename_i hz
    simp only [mulOk, decC_eq] at hz
    cases he
    exact op_mul pins s σ H _ _ v u Q I rx ry ⟨_, _, rfl, rfl, hz, q _ _ (Same.refl _) (.int _)⟩
  · obtain ⟨a, xs, rfl, ha, ta⟩ := hx.tupE
    obtain rfl := hy.intE
    split at he <;> first | (cases he; done) | skip
    rename_i k hz
    simp only [repOk, decC_eq] at hz
    cases he
    have l1 := ta.length
    refine op_repF pins s σ H _ _ v u Q I rx ry ⟨a, _, xs, rfl, rfl, ha.sq, hz.1, hz.2.1, by omega, fun h => ?_, fun _ => tup_end (ta.rep _) q⟩
    rcases h with h | h
    · subst h
      cases ta
      have e : (List.replicate k.toNat ([] : List PyData)).flatten = [] := by simp
      rw [e] at q
      exact q _ _ (Same.refl _) (.tup ha .nil)
    · subst h
      have e : ∀ l : List PyData, (List.replicate (Int.toNat 1) l).flatten = l := fun l => by simp
      rw [e] at q
      exact q _ _ (Same.refl _) (.tup ha ta)
  · obtain ⟨a, xs, rfl, ha, ta⟩ := hx.lstE
    obtain rfl := hy.intE
    split at he <;> first | (cases he; done) | skip
    rename_i k hz
    simp only [repOk, decC_eq] at hz
    cases he
    have l1 := ta.length
    refine thn (op_repR pins s σ H _ _ v u _ I rx ry ⟨a, k, xs, rfl, rfl, ha, hz.1, hz.2.1, by omega, fun p hp => ?_⟩) fun _ _ z => ep_freeze z
    exact frz_end (pins := pins) (σ := σ) hp (ta.rep k.toNat) q
theorem opD_bin (op : Bop) : OpD X (binaryOp (match op with | .add => .Add | .sub => .Sub | .mul => .Mult | .fdiv => .FloorDiv | .mod => .Mod)) (binEv op) := by
  cases op
  · exact opD_add
  · exact opD_sub
  · exact opD_mul
  · exact opD_fdiv
  · exact opD_mod

/-! ### comparisons -/
def OpB (X : Cx) (f : Value → Value → Sem Value) (g : PyData → PyData → Option Bool) : Prop :=
  ∀ (pins : List (Addr × Obj)) (s : Shared) (σ : L2.St) (H : Hp) (x y : V) (v u : Value) (Q : VK) (d e : PyData) (k : Bool), Inv X pins σ H s → RelV x v → RelV y u → HasR X.K H x d → HasR X.K H y e → g d e = some k →
    Q (.bl k) H → wpAny (model X.prog X.w) X.A (f v u) (EP X pins σ Q) X.xe s
theorem opB_eq (hu : X.A.units + 64 < cLine) : OpB X (compareOp .Eq) eqEv := by
  intro pins s σ H x y v u Q d e k I rx ry hx hy he q
  unfold eqEv at he
  split at he <;> first | (cases he; done) | skip
  rename_i hz
  rw [Bool.and_eq_true] at hz
  cases he
  exact op_eqD hu pins s σ H x y v u Q I rx ry ⟨d, e, hx.dp, hy.dp, hz.1, hz.2, q⟩
theorem opB_ne (hu : X.A.units + 64 < cLine) : OpB X (compareOp .NotEq) neEv := by
  intro pins s σ H x y v u Q d e k I rx ry hx hy he q
  unfold neEv at he
  split at he <;> first | (cases he; done) | skip
  rename_i hz
  rw [Bool.and_eq_true] at hz
  cases he
  exact op_neD hu pins s σ H x y v u Q I rx ry ⟨d, e, hx.dp, hy.dp, hz.1, hz.2, q⟩
theorem opB_lt (hu : X.A.units + 65 < cLine) : OpB X (compareOp .Lt) ltEv := by
  intro pins s σ H x y v u Q d e k I rx ry hx hy he q
  unfold ltEv at he
  split at he
  · obtain rfl := hx.intE; obtain rfl := hy.intE
    cases he
    exact op_lt pins s σ H _ _ v u Q I rx ry ⟨_, _, rfl, rfl, q⟩
  · split at he <;> first | (cases he; done) | skip
    rename_i hz
    simp only [ltOk, Bool.and_eq_true, Bool.not_eq_true', decide_eq_true_eq] at hz
    cases he
    obtain ⟨as, r1⟩ := Dp.reads I d x v hx.dp rx
    obtain ⟨bs, r2⟩ := Dp.reads I e y u hy.dp ry
    exact PySem.W.lt_data r1 r2 hz.1 (fun e0 => by rw [e0] at hz; cases hz.2.1) (by have := Nat.min_le_left d.depth e.depth; omega) ⟨.bl _, H, I, rfl, q⟩
theorem opB_gt : OpB X (compareOp .Gt) gtEv := by
  intro pins s σ H x y v u Q d e k I rx ry hx hy he q
  unfold gtEv at he
  split at he <;> first | (cases he; done) | skip
  obtain rfl := hx.intE; obtain rfl := hy.intE
  cases he
  exact op_gt pins s σ H _ _ v u Q I rx ry ⟨_, _, rfl, rfl, q⟩
theorem opB_ge : OpB X (compareOp .GtE) geEv := by
  intro pins s σ H x y v u Q d e k I rx ry hx hy he q
  unfold geEv at he
  split at he <;> first | (cases he; done) | skip
  obtain rfl := hx.intE; obtain rfl := hy.intE
  cases he
  exact op_ge pins s σ H _ _ v u Q I rx ry ⟨_, _, rfl, rfl, q⟩
theorem opB_le : OpB X (compareOp .LtE) leEv := by
  intro pins s σ H x y v u Q d e k I rx ry hx hy he q
  unfold leEv at he
  split at he <;> first | (cases he; done) | skip
  · obtain rfl := hx.intE; obtain rfl := hy.intE
    cases he
    exact op_le pins s σ H _ _ v u Q I rx ry ⟨_, _, rfl, rfl, q⟩
  · obtain rfl := hx.strE; obtain rfl := hy.strE
    cases he
    exact op_le_str pins s σ H _ _ v u Q I rx ry ⟨_, _, rfl, rfl, q⟩
theorem opB_isin (hu : X.A.units + 65 < cLine) : OpB X (compareOp .In) isinEv := by
  intro pins s σ H x y v u Q d e k I rx ry hx hy he q
  unfold isinEv at he
  split at he <;> first | (cases he; done) | skip
  · split at he <;> first | (cases he; done) | skip
    rename_i hz
    rw [Bool.and_eq_true] at hz
    cases he
    exact op_inD hu pins s σ H x y v u Q I rx ry ⟨d, _, hx.dp, hy.dp, hz.1, hz.2, q⟩
  · split at he <;> first | (cases he; done) | skip
    rename_i hz
    rw [Bool.and_eq_true] at hz
    cases he
    obtain ⟨as, r1⟩ := Dp.reads I d x v hx.dp rx
    obtain ⟨bs, r2⟩ := Dp.reads I _ y u hy.dp ry
    exact SeqAt.in_tuple_reads r2 r1 (SeqAt.canLay_of_shaped hz.2) (SeqAt.canLay_of_shaped hz.1) (room_in_shaped hz.1 hu) ⟨.bl _, H, I, rfl, q⟩
  · split at he <;> first | (cases he; done) | skip
    obtain rfl := hx.strE; obtain rfl := hy.strE
    cases he
    exact op_in_sign pins s σ H _ _ v u Q I rx ry ⟨_, _, rfl, rfl, q⟩
theorem opB_notin (hu : X.A.units + 65 < cLine) : OpB X (compareOp .NotIn) notinEv := by
  intro pins s σ H x y v u Q d e k I rx ry hx hy he q
  unfold notinEv at he
  obtain ⟨k', hi, ek⟩ := Option.map_eq_some_iff.mp he
  subst ek
  clear he
  have he := hi
  unfold isinEv at he
  split at he <;> first | (cases he; done) | skip
  · split at he <;> first | (cases he; done) | skip
    rename_i hz
    rw [Bool.and_eq_true] at hz
    obtain rfl := Option.some.inj he
    exact op_notInD hu pins s σ H x y v u Q I rx ry ⟨d, _, hx.dp, hy.dp, hz.1, hz.2, q⟩
  · split at he <;> first | (cases he; done) | skip
    rename_i hz
    rw [Bool.and_eq_true] at hz
    obtain rfl := Option.some.inj he
    obtain ⟨as, r1⟩ := Dp.reads I d x v hx.dp rx
    obtain ⟨bs, r2⟩ := Dp.reads I _ y u hy.dp ry
    exact SeqAt.notIn_tuple_reads r2 r1 (SeqAt.canLay_of_shaped hz.2) (SeqAt.canLay_of_shaped hz.1) (room_in_shaped hz.1 hu) ⟨.bl _, H, I, rfl, q⟩
  · split at he <;> first | (cases he; done) | skip
    obtain rfl := hx.strE; obtain rfl := hy.strE
    obtain rfl := Option.some.inj he
    exact op_notIn_sign pins s σ H _ _ v u Q I rx ry ⟨_, _, rfl, rfl, q⟩
theorem isNone_dec {K : PySem.W.Frag} {H : Hp} {x : V} {d : PyData} (h : HasR K H x d) : decide (x = .non) = isNoneD d := by
  cases d with
  | none => obtain rfl := h.nonE; rfl
  | bool b => obtain rfl := h.blE; rfl
  | int b => obtain rfl := h.intE; rfl
  | str b => obtain rfl := h.strE; rfl
  | list ds => obtain ⟨a, xs, rfl, _⟩ := h.lstE; rfl
  | tuple ds => obtain ⟨a, xs, rfl, _⟩ := h.tupE; rfl
  | dict kv => cases (show Has K H x (.dict kv) from h)
theorem opB_is : OpB X (compareOp .Is) isEv := by
  intro pins s σ H x y v u Q d e k I rx ry hx hy he q
  unfold isEv at he
  split at he <;> first | (cases he; done) | skip
  · obtain rfl := hx.blE; obtain rfl := hy.blE
    cases he
    exact op_isBl pins s σ H _ _ v u Q I rx ry ⟨_, _, rfl, rfl, q⟩
  · obtain rfl := hy.nonE
    cases he
    exact op_isN pins s σ H _ _ v u Q I rx ry ⟨rfl, by rw [isNone_dec hx]; exact q⟩
theorem opB_isnot : OpB X (compareOp .IsNot) isnotEv := by
  intro pins s σ H x y v u Q d e k I rx ry hx hy he q
  unfold isnotEv at he
  split at he <;> first | (cases he; done) | skip
  · obtain rfl := hx.blE; obtain rfl := hy.blE
    cases he
    exact op_notBl pins s σ H _ _ v u Q I rx ry ⟨_, _, rfl, rfl, q⟩
  · obtain rfl := hy.nonE
    cases he
    exact op_notN pins s σ H _ _ v u Q I rx ry ⟨rfl, by rw [isNone_dec hx]; exact q⟩
def copM : Cop → CmpOp
  | .eq => .Eq | .ne => .NotEq | .lt => .Lt | .le => .LtE | .gt => .Gt | .ge => .GtE | .isin => .In | .notin => .NotIn | .is_ => .Is | .isnot => .IsNot
def bopM : Bop → Operator
  | .add => .Add | .sub => .Sub | .mul => .Mult | .fdiv => .FloorDiv | .mod => .Mod
theorem opB_cmp (hu : X.A.units + 65 < cLine) (op : Cop) : OpB X (compareOp (copM op)) (cmpEv op) := by
  cases op
  · exact opB_eq (by omega)
  · exact opB_ne (by omega)
  · exact opB_lt hu
  · exact opB_le
  · exact opB_gt
  · exact opB_ge
  · exact opB_isin hu
  · exact opB_notin hu
  · exact opB_is
  · exact opB_isnot

/-! ### items, slices -/
theorem atI_has {K : PySem.W.Frag} {H : Hp} {xs : List V} {ds : List PyData} (t : HasAll K H xs ds) {i : Int} {d : PyData} (h : atI ds i = some d) : ∃ v, atI xs i = some v ∧ Has K H v d := by
  unfold atI at h ⊢
  rw [t.length]
  obtain ⟨j, h1, h2⟩ := Option.bind_eq_some_iff.mp h
  obtain ⟨v, h3, h4⟩ := t.get h2
  exact ⟨v, by rw [h1]; exact h3, h4⟩
def IxD (X : Cx) : Prop :=
  ∀ (pins : List (Addr × Obj)) (s : Shared) (σ : L2.St) (H : Hp) (x y : V) (v u : Value) (Q : VK) (d e r : PyData), Inv X pins σ H s → RelV x v → RelV y u → HasR X.K H x d → HasR X.K H y e → idxEv d e = some r →
    (∀ z H', Same H H' → Has X.K H' z r → Q z H') → rIx X.K x y H Q
theorem rIx_ok {K : PySem.W.Frag} {H : Hp} {x y : V} {Q : VK} {d e r : PyData} (hx : HasR K H x d) (hy : HasR K H y e) (he : idxEv d e = some r) (q : ∀ z H', Same H H' → Has K H' z r → Q z H') : rIx K x y H Q := by
  unfold idxEv at he
  split at he <;> first | (cases he; done) | skip
  · obtain ⟨a, xs, rfl, ha, ta⟩ := hx.lstE
    obtain rfl := hy.intE
    obtain ⟨v, h1, h2⟩ := atI_has ta he
    exact .inl ⟨a, xs, _, v, rfl, rfl, rd_sq ha, h1, q _ _ (Same.refl _) h2⟩
  · obtain ⟨a, xs, rfl, ha, ta⟩ := hx.tupE
    obtain rfl := hy.intE
    obtain ⟨v, h1, h2⟩ := atI_has ta he
    exact .inr (.inl ⟨a, xs, _, v, rfl, rfl, ha.sq, h1, q _ _ (Same.refl _) h2⟩)
  · obtain rfl := hx.strE
    obtain rfl := hy.intE
    split at he <;> first | (cases he; done) | skip
    rename_i hz
    obtain ⟨c, h1, rfl⟩ := Option.map_eq_some_iff.mp he
    exact .inr (.inr ⟨_, _, c, rfl, rfl, szOk_le hz, h1, q _ _ (Same.refl _) (.str _)⟩)
theorem cut_has {K : PySem.W.Frag} {H : Hp} {xs : List V} {ds : List PyData} (t : HasAll K H xs ds) (lo hi : Option Int) : HasAll K H (cutV xs lo hi) (cutA ds lo hi) := by
  unfold cutV cutA
  rw [t.length]
  exact (t.drop _).take _
end
end Lr
namespace Lr
open PySem PySem.Spec PyProof.Rows L2

/-! ### the frame's slots and what is told of them -/
def Slot.owned : Slot → Bool
  | .own _ => true
  | .keys _ => true
  | _ => false
def SlotOk (K : PySem.W.Frag) (H0 H : Hp) (o : Option (Option V)) : Slot → Prop
  | .none => True
  | .val d => ∃ v, o = some (some v) ∧ Has K H v d
  | .own xs => ∃ a vs, o = some (some (.ref a)) ∧ H a = some (.lst vs) ∧ HasAll K H vs xs ∧ H0 a = none
  | .keys _ => False
structure RelEnv (K : PySem.W.Frag) (H0 H : Hp) (σ : L2.St) (ρ : Rho) : Prop where
  same : Same H0 H
  len : σ.length = ρ.length
  slot : ∀ (i : Nat) (s : Slot), ρ[i]? = some s → SlotOk K H0 H (σ[i]?) s
  disj : ∀ (i j : Nat) (s t : Slot) (a : Addr), ρ[i]? = some s → ρ[j]? = some t → s.owned = true → t.owned = true → σ[i]? = some (some (.ref a)) → σ[j]? = some (some (.ref a)) → i = j
section
variable {K : PySem.W.Frag} {H0 H H' : Hp} {σ : L2.St} {ρ : Rho}
theorem SlotOk.mono (e : Same H H') {o : Option (Option V)} {s : Slot} (h : SlotOk K H0 H o s) : SlotOk K H0 H' o s := by
  cases s with
  | none => trivial
  | val d => obtain ⟨v, h1, h2⟩ := h; exact ⟨v, h1, h2.ext (same_ext e)⟩
  | own xs => obtain ⟨a, vs, h1, h2, h3, h4⟩ := h; exact ⟨a, vs, h1, e _ _ h2, h3.ext (same_ext e), h4⟩
  | keys ks => exact h
theorem RelEnv.mono (r : RelEnv K H0 H σ ρ) (e : Same H H') : RelEnv K H0 H' σ ρ :=
  ⟨r.same.trans e, r.len, fun i s h => (r.slot i s h).mono e, r.disj⟩
theorem RelEnv.read (r : RelEnv K H0 H σ ρ) {i : Nat} {m : Bool} {d : PyData} (h : readS m ρ i = some d) : ∃ v, σ[i]? = some (some v) ∧ HasR K H v d ∧ (m = false → Has K H v d) := by
  unfold readS at h
  split at h
  · rename_i d' e
    cases h
    obtain ⟨v, h1, h2⟩ := r.slot i _ e
    exact ⟨v, h1, h2.r, fun _ => h2⟩
  · rename_i xs e
    split at h
    · rename_i hm
      cases h
      obtain ⟨a, vs, h1, h2, h3, _⟩ := r.slot i _ e
      exact ⟨_, h1, ⟨a, vs, rfl, .inl h2, h3⟩, fun z => by rw [hm] at z; cases z⟩
    · cases h
  · cases h
theorem get_set_ne {α : Type} {l : List α} {i j : Nat} {x : α} (h : i ≠ j) : (l.set i x)[j]? = l[j]? := List.getElem?_set_ne h
theorem get_set_eq {α : Type} {l : List α} {i : Nat} {x y : α} (h : (l.set i x)[i]? = some y) : i < l.length ∧ y = x := by
  by_cases hi : i < l.length
  · rw [List.getElem?_set_self hi] at h; cases h; exact ⟨hi, rfl⟩
  · rw [List.getElem?_eq_none (by simpa using hi)] at h; cases h
theorem RelEnv.setVal (r : RelEnv K H0 H σ ρ) (i : Nat) {v : V} {d : PyData} (h : Has K H v d) : RelEnv K H0 H (σ.set i (some v)) (ρ.set i (.val d)) := by
  refine ⟨r.same, by rw [List.length_set, List.length_set]; exact r.len, fun j s hj => ?_, fun j l s t a hj hl oj ol sj sl => ?_⟩
  · by_cases e : i = j
    · subst e
      obtain ⟨hi, rfl⟩ := get_set_eq hj
      rw [List.getElem?_set_self (by rw [r.len]; exact hi)]
      exact ⟨v, rfl, h⟩
    · rw [get_set_ne e] at hj ⊢
      exact r.slot j s hj
  · by_cases e : i = j
    · subst e
      obtain ⟨hi, rfl⟩ := get_set_eq hj
      cases oj
    · by_cases e2 : i = l
      · subst e2
        obtain ⟨hi, rfl⟩ := get_set_eq hl
        cases ol
      · rw [get_set_ne e] at hj sj
        rw [get_set_ne e2] at hl sl
        exact r.disj j l s t a hj hl oj ol sj sl
theorem RelEnv.setOwn (r : RelEnv K H0 H σ ρ) (i : Nat) {a : Addr} {vs : List V} {xs : List PyData} (ha : H a = some (.lst vs)) (h : HasAll K H vs xs) (h0 : H0 a = none)
    (hf : ∀ (j : Nat) (s : Slot), j ≠ i → ρ[j]? = some s → s.owned = true → σ[j]? ≠ some (some (.ref a))) : RelEnv K H0 H (σ.set i (some (.ref a))) (ρ.set i (.own xs)) := by
  refine ⟨r.same, by rw [List.length_set, List.length_set]; exact r.len, fun j s hj => ?_, fun j l s t b hj hl oj ol sj sl => ?_⟩
  · by_cases e : i = j
    · subst e
      obtain ⟨hi, rfl⟩ := get_set_eq hj
      rw [List.getElem?_set_self (by rw [r.len]; exact hi)]
      exact ⟨a, vs, rfl, ha, h, h0⟩
    · rw [get_set_ne e] at hj ⊢
      exact r.slot j s hj
  · by_cases e : i = j
    · subst e
      obtain ⟨_, e1⟩ := get_set_eq sj
      cases e1
      by_cases e2 : i = l
      · exact e2
      · rw [get_set_ne e2] at hl sl
        exact absurd sl (hf l t (Ne.symm e2) hl ol)
    · by_cases e2 : i = l
      · subst e2
        obtain ⟨_, e1⟩ := get_set_eq sl
        cases e1
        rw [get_set_ne e] at hj sj
        exact absurd sj (hf j s (Ne.symm e) hj oj)
      · rw [get_set_ne e] at hj sj
        rw [get_set_ne e2] at hl sl
        exact r.disj j l s t b hj hl oj ol sj sl
/-- an owned slot's address is tracked -/
theorem RelEnv.tracked (r : RelEnv K H0 H σ ρ) {j : Nat} {s : Slot} {a : Addr} (h : ρ[j]? = some s) (o : s.owned = true) (e : σ[j]? = some (some (.ref a))) : ∃ u, H a = some u := by
  cases s with
  | none => cases o
  | val d => cases o
  | own xs =>
    obtain ⟨b, vs, h1, h2, _⟩ := r.slot j _ h
    rw [h1] at e
    cases e
    exact ⟨_, h2⟩
  | keys ks => exact (r.slot j _ h).elim
theorem RelEnv.wiped (r : RelEnv K H0 H σ ρ) (i : Nat) : RelEnv K H0 H (σ.set i none) (ρ.set i .none) := by
  refine ⟨r.same, by rw [List.length_set, List.length_set]; exact r.len, fun j s hj => ?_, fun j l s t a hj hl oj ol sj sl => ?_⟩
  · by_cases e : i = j
    · subst e
      obtain ⟨hi, rfl⟩ := get_set_eq hj
      trivial
    · rw [get_set_ne e] at hj ⊢
      exact r.slot j s hj
  · by_cases e : i = j
    · subst e
      obtain ⟨hi, rfl⟩ := get_set_eq hj
      cases oj
    · by_cases e2 : i = l
      · subst e2
        obtain ⟨hi, rfl⟩ := get_set_eq hl
        cases ol
      · rw [get_set_ne e] at hj sj
        rw [get_set_ne e2] at hl sl
        exact r.disj j l s t a hj hl oj ol sj sl
def wipeR (ρ : Rho) : List Nat → Rho
  | [] => ρ
  | v :: vs => (wipeR ρ vs).set v .none
theorem RelEnv.wipe (r : RelEnv K H0 H σ ρ) : ∀ vs : List Nat, RelEnv K H0 H (wipe σ vs) (wipeR ρ vs)
  | [] => r
  | v :: vs => (RelEnv.wipe r vs).wiped v
/-- the owner's list is frozen -/
theorem RelEnv.frozen (r : RelEnv K H0 H σ ρ) {i : Nat} {a : Addr} {vs : List V} {xs : List PyData} {o : Obj} (hi : ρ[i]? = some (.own xs)) (hs : σ[i]? = some (some (.ref a))) (ha : H a = some (.lst vs)) (h : HasAll K H vs xs) (h0 : H0 a = none) :
    RelEnv K H0 (upd H a (.frz o (.lst vs))) σ (ρ.set i (.val (.list xs))) := by
  have ex := ext_freeze (o := o) ha
  refine ⟨same_frz r.same h0, by rw [List.length_set]; exact r.len, fun j s hj => ?_, fun j l s t b hj hl oj ol sj sl => ?_⟩
  · by_cases e : i = j
    · subst e
      obtain ⟨hi, rfl⟩ := get_set_eq hj
      exact ⟨_, hs, .lst ⟨o, upd_same⟩ (h.ext ex)⟩
    · rw [get_set_ne e] at hj
      have q := r.slot j s hj
      cases s with
      | none => trivial
      | val d => obtain ⟨v, h1, h2⟩ := q; exact ⟨v, h1, h2.ext ex⟩
      | own ys =>
        obtain ⟨b, ws, h1, h2, h3, h4⟩ := q
        have ne : b ≠ a := fun z => by
          subst z
          exact e (r.disj i j _ _ b hi hj rfl rfl hs h1)
        exact ⟨b, ws, h1, by rw [upd_ne ne]; exact h2, h3.ext ex, h4⟩
      | keys ks => exact q
  · by_cases e : i = j
    · subst e
      obtain ⟨_, rfl⟩ := get_set_eq hj
      cases oj
    · by_cases e2 : i = l
      · subst e2
        obtain ⟨_, rfl⟩ := get_set_eq hl
        cases ol
      · rw [get_set_ne e] at hj
        rw [get_set_ne e2] at hl
        exact r.disj j l s t b hj hl oj ol sj sl
end

/-! ### readings by data -/
abbrev Evl := Rho → Option PyData
/-- strict: what is told is kept for ever -/
def tE (K : PySem.W.Frag) (H0 : Hp) (f : Evl) : TE := fun σ H Q => ∃ ρ d, RelEnv K H0 H σ ρ ∧ f ρ = some d ∧ ∀ v H', Same H H' → Has K H' v d → Q v H'
/-- read -/
def tR (K : PySem.W.Frag) (H0 : Hp) (f : Evl) : TE := fun σ H Q => ∃ ρ d, RelEnv K H0 H σ ρ ∧ f ρ = some d ∧ ∀ v H', Same H H' → HasR K H' v d → Q v H'
/-- a new list -/
def tF (K : PySem.W.Frag) (H0 : Hp) (f : Evl) : TE := fun σ H Q => ∃ ρ ds, RelEnv K H0 H σ ρ ∧ f ρ = some (.list ds) ∧ ∀ a vs H', Same H H' → H a = none → H' a = some (.lst vs) → HasAll K H' vs ds → Q (.ref a) H'
def tT (K : PySem.W.Frag) (H0 : Hp) (f : Evl) : TT := fun σ H Q => ∃ ρ k, RelEnv K H0 H σ ρ ∧ f ρ = some (.bool k) ∧ ∀ H', Same H H' → Q k H'
abbrev Evls := Rho → Option (List PyData)
def tAE (K : PySem.W.Frag) (H0 : Hp) (f : Evls) : TA := fun σ H Q => ∃ ρ ds, RelEnv K H0 H σ ρ ∧ f ρ = some ds ∧ ∀ vs H', Same H H' → HasAll K H' vs ds → Q vs H'
inductive HasRs (K : PySem.W.Frag) (H : Hp) : List V → List PyData → Prop
  | nil : HasRs K H [] []
  | cons {v : V} {vs : List V} {d : PyData} {ds : List PyData} : HasR K H v d → HasRs K H vs ds → HasRs K H (v :: vs) (d :: ds)
theorem HasRs.same {K : PySem.W.Frag} {H H' : Hp} (e : Same H H') {vs : List V} {ds : List PyData} (h : HasRs K H vs ds) : HasRs K H' vs ds := by
  induction h with
  | nil => exact .nil
  | cons h _ ih => exact .cons (h.same e) ih
def tAR (K : PySem.W.Frag) (H0 : Hp) (f : Evls) : TA := fun σ H Q => ∃ ρ ds, RelEnv K H0 H σ ρ ∧ f ρ = some ds ∧ ∀ vs H', Same H H' → HasRs K H' vs ds → Q vs H'
section
variable {X : Cx} {H0 : Hp} {e a b c : Expr} {f g k : Evl} {pos : Pos}
theorem pe_r (h : PE X e (tE X.K H0 f)) : PE X e (tR X.K H0 f) :=
  pe_mono h fun σ H Q ⟨ρ, d, r, he, q⟩ => ⟨ρ, d, r, he, fun v H' s z => q v H' s z.r⟩
theorem pe_f (h : PE X e (tF X.K H0 f)) (hl : ∀ ρ d, f ρ = some d → ∃ ds, d = .list ds) : PE X e (tE X.K H0 f) := by
  refine pe_mono (pe_freeze h) fun σ H Q ⟨ρ, d, r, he, q⟩ => ?_
  obtain ⟨ds, rfl⟩ := hl ρ d he
  refine ⟨ρ, ds, r, he, fun a vs H' s h1 h2 h3 => ⟨a, vs, rfl, h2, fun o => q _ _ (same_frz s h1) (.lst ⟨o, upd_same⟩ (h3.ext (ext_freeze h2)))⟩⟩
theorem pe_lit {d : PyData} {v : V} (h : PE X e (tC v)) (hv : ∀ H, Has X.K H v d) : PE X e (tE X.K H0 fun _ => some d) :=
  pe_mono h fun σ H Q ⟨ρ, d', r, he, q⟩ => by cases he; exact q v H (Same.refl _) (hv H)
theorem pe_varE {i : Nat} (h : PE X e (tVar i)) : PE X e (tE X.K H0 fun ρ => readS false ρ i) :=
  pe_mono h fun σ H Q ⟨ρ, d, r, he, q⟩ => by
    obtain ⟨v, h1, _, h2⟩ := r.read he
    exact ⟨v, h1, q v H (Same.refl _) (h2 rfl)⟩
theorem pe_varR {i : Nat} (h : PE X e (tVar i)) : PE X e (tR X.K H0 fun ρ => readS true ρ i) :=
  pe_mono h fun σ H Q ⟨ρ, d, r, he, q⟩ => by
    obtain ⟨v, h1, h2, _⟩ := r.read he
    exact ⟨v, h1, q v H (Same.refl _) h2⟩
theorem bind2 {α β γ : Type} {x : Option α} {h : α → Option β} {k : β → α → Option γ} {r : γ} : True := trivial
theorem pe_opD {op : Operator} {gg : PyData → PyData → Option PyData} (ho : OpD X (binaryOp op) gg) (ha : PE X a (tR X.K H0 f)) (hb : PE X b (tR X.K H0 g)) :
    PE X (.BinOp a op b pos) (tE X.K H0 fun ρ => (f ρ).bind fun x => (g ρ).bind fun y => gg x y) := by
  refine ⟨fun pins s σ H Q I ⟨ρ, d, r, he, q⟩ => ?_⟩
  obtain ⟨x, hx, he⟩ := Option.bind_eq_some_iff.mp he
  obtain ⟨y, hy, he⟩ := Option.bind_eq_some_iff.mp he
  refine wpAny_BinOp (binT ha hb (R := fun x' y' H2 => Same H H2 ∧ HasR X.K H2 x' x ∧ HasR X.K H2 y' y) I ?_ fun v u s2 x' y' H2 I2 rx ry ⟨s2', h1, h2⟩ => ?_)
  · exact ⟨ρ, x, r, hx, fun v H1 s1 h1 => ⟨ρ, y, r.mono s1, hy, fun w H2 s2 h2 => ⟨s1.trans s2, h1.same s2, h2⟩⟩⟩
  · exact ho pins s2 σ H2 x' y' v u Q x y d I2 rx ry h1 h2 he fun z H' s3 h3 => q z H' (s2'.trans s3) h3
theorem pe_cmpD {op : CmpOp} {gg : PyData → PyData → Option Bool} (ho : OpB X (compareOp op) gg) (ha : PE X a (tR X.K H0 f)) (hb : PE X b (tR X.K H0 g)) (hm : behindInMarks op b = false) :
    PE X (.Compare a [op] [b] pos) (tE X.K H0 fun ρ => (f ρ).bind fun x => (g ρ).bind fun y => (gg x y).map .bool) := by
  refine pe_mono (pe_cmpR (r := fun x y H Q => ∃ d e k, HasR X.K H x d ∧ HasR X.K H y e ∧ gg d e = some k ∧ Q (.bl k) H) (fun pins s σ H x y v u Q I rx ry ⟨d, e, k, h1, h2, h3, q⟩ => ho pins s σ H x y v u Q d e k I rx ry h1 h2 h3 q) ha hb hm) ?_
  intro σ H Q ⟨ρ, d, r, he, q⟩
  obtain ⟨x, hx, he⟩ := Option.bind_eq_some_iff.mp he
  obtain ⟨y, hy, he⟩ := Option.bind_eq_some_iff.mp he
  obtain ⟨kk, hk, e2⟩ := Option.map_eq_some_iff.mp he
  rw [← e2] at q
  exact ⟨ρ, x, r, hx, fun v H1 s1 h1 => ⟨ρ, y, r.mono s1, hy, fun w H2 s2 h2 => ⟨x, y, kk, h1.same s2, h2, hk, q _ _ (s1.trans s2) (.bl _)⟩⟩⟩
theorem pt_cmpD {op : CmpOp} {gg : PyData → PyData → Option Bool} (ho : OpB X (compareOp op) gg) (ha : PE X a (tR X.K H0 f)) (hb : PE X b (tR X.K H0 g)) (hm : behindInMarks op b = false) :
    PT X (.Compare a [op] [b] pos) (tT X.K H0 fun ρ => (f ρ).bind fun x => (g ρ).bind fun y => (gg x y).map .bool) := by
  refine pt_mono (pt_cmpR (r := fun x y H Q => ∃ d e k, HasR X.K H x d ∧ HasR X.K H y e ∧ gg d e = some k ∧ Q (.bl k) H) (fun pins s σ H x y v u Q I rx ry ⟨d, e, k, h1, h2, h3, q⟩ => ho pins s σ H x y v u Q d e k I rx ry h1 h2 h3 q) ha hb hm) ?_
  intro σ H Q ⟨ρ, d, r, he, q⟩
  obtain ⟨x, hx, he⟩ := Option.bind_eq_some_iff.mp he
  obtain ⟨y, hy, he⟩ := Option.bind_eq_some_iff.mp he
  obtain ⟨kk, hk, e2⟩ := Option.map_eq_some_iff.mp he
  cases e2
  exact ⟨ρ, x, r, hx, fun v H1 s1 h1 => ⟨ρ, y, r.mono s1, hy, fun w H2 s2 h2 => ⟨x, y, _, h1.same s2, h2, hk, _, rfl, q _ (s1.trans s2)⟩⟩⟩
/-- a test by its value -/
theorem pt_ofE (h : PE X e (tR X.K H0 f)) (he : ∀ whole, isTrue e X.env whole = (do let v ← whole; standAt e.pos; holding [v] (truthy v))) : PT X e (tT X.K H0 f) :=
  pt_mono (pt_val h he) fun σ H Q ⟨ρ, k, r, hf, q⟩ => ⟨ρ, _, r, hf, fun v H' s z => ⟨k, z.blE, q H' s⟩⟩
theorem pe_ofT : True := trivial
def chainF (g1 g2 : PyData → PyData → Option Bool) (f g k : Evl) : Evl := fun ρ => (f ρ).bind fun x => (g ρ).bind fun y => (g1 x y).bind fun b => if b then (k ρ).bind fun z => (g2 y z).map .bool else some (.bool false)
abbrev rB (K : PySem.W.Frag) (gg : PyData → PyData → Option Bool) : R2 := fun x y H Q => ∃ d e k, HasR K H x d ∧ HasR K H y e ∧ gg d e = some k ∧ Q (.bl k) H
theorem opR_of {fO : Value → Value → Sem Value} {gg : PyData → PyData → Option Bool} (ho : OpB X fO gg) : OpR X fO (rB X.K gg) :=
  fun pins s σ H x y v u Q I rx ry ⟨d, e, k, h1, h2, h3, q⟩ => ho pins s σ H x y v u Q d e k I rx ry h1 h2 h3 q
theorem chain_read {g1 g2 : PyData → PyData → Option Bool} {σ : L2.St} {H : Hp} {ρ : Rho} {kk : Bool} {Q : VK} (r : RelEnv X.K H0 H σ ρ) (he : chainF g1 g2 f g k ρ = some (.bool kk)) (q : ∀ H', Same H H' → Q (.bl kk) H') :
    tChain (rB X.K g1) (rB X.K g2) (tR X.K H0 f) (tR X.K H0 g) (tR X.K H0 k) σ H Q := by
  unfold chainF at he
  obtain ⟨x, hx, he⟩ := Option.bind_eq_some_iff.mp he
  obtain ⟨y, hy, he⟩ := Option.bind_eq_some_iff.mp he
  obtain ⟨b, hb, he⟩ := Option.bind_eq_some_iff.mp he
  refine ⟨ρ, x, r, hx, fun v H1 s1 h1 => ⟨ρ, y, r.mono s1, hy, fun w H2 s2 h2 => ⟨x, y, b, h1.same s2, h2, hb, b, rfl, ?_⟩⟩⟩
  cases b with
  | false =>
    cases he
    exact q H2 (s1.trans s2)
  | true =>
    rw [if_pos rfl] at he
    obtain ⟨z, hz, he⟩ := Option.bind_eq_some_iff.mp he
    obtain ⟨k2, hk2, e2⟩ := Option.map_eq_some_iff.mp he
    cases e2
    exact ⟨ρ, z, (r.mono s1).mono s2, hz, fun u H3 s3 h3 => ⟨y, z, kk, h2.same s3, h3, hk2, q H3 ((s1.trans s2).trans s3)⟩⟩
end
end Lr
namespace Lr
open PySem PySem.Spec PyProof.Rows L2
theorem bs {α β : Type} {x : Option α} {f : α → Option β} {r : β} (h : x.bind f = some r) : ∃ a, x = some a ∧ f a = some r := Option.bind_eq_some_iff.mp h
theorem andD_some {x : PyData} {y : Option PyData} {r : PyData} (h : andD x y = some r) : (∃ k, x = .bool true ∧ y = some (.bool k) ∧ r = .bool k) ∨ (x = .bool false ∧ r = .bool false) := by
  unfold andD at h
  split at h
  · cases h; exact .inl ⟨_, rfl, rfl, rfl⟩
  · cases h; exact .inr ⟨rfl, rfl⟩
  · cases h
theorem orD_some {x : PyData} {y : Option PyData} {r : PyData} (h : orD x y = some r) : (∃ k, x = .bool false ∧ y = some (.bool k) ∧ r = .bool k) ∨ (x = .bool true ∧ r = .bool true) := by
  unfold orD at h
  split at h
  · cases h; exact .inl ⟨_, rfl, rfl, rfl⟩
  · cases h; exact .inr ⟨rfl, rfl⟩
  · cases h
section
variable {X : Cx} {H0 : Hp} {e a b c : Expr} {f g k : Evl} {pos : Pos} {rest : List Expr}
theorem pe_andD (ha : PE X a (tR X.K H0 f)) (hb : PE X (.BoolOp .And (b :: rest) pos) (tR X.K H0 g)) : PE X (.BoolOp .And (a :: b :: rest) pos) (tE X.K H0 fun ρ => (f ρ).bind fun x => andD x (g ρ)) := by
  refine pe_mono (pe_and ha hb) fun σ H Q ⟨ρ, d, r, he, q⟩ => ?_
  obtain ⟨x, hx, he⟩ := bs he
  refine ⟨ρ, x, r, hx, fun v H1 s1 h1 => ?_⟩
  rcases andD_some he with ⟨kk, rfl, hy, rfl⟩ | ⟨rfl, rfl⟩
  · exact ⟨true, h1.blE, iteT (⟨ρ, _, r.mono s1, hy, fun w H2 s2 h2 => q w H2 (s1.trans s2) (by rw [h2.blE]; exact .bl _)⟩)⟩
  · exact ⟨false, h1.blE, iteF (q _ _ s1 (.bl _))⟩
theorem pe_orD (ha : PE X a (tR X.K H0 f)) (hb : PE X (.BoolOp .Or (b :: rest) pos) (tR X.K H0 g)) : PE X (.BoolOp .Or (a :: b :: rest) pos) (tE X.K H0 fun ρ => (f ρ).bind fun x => orD x (g ρ)) := by
  refine pe_mono (pe_or ha hb) fun σ H Q ⟨ρ, d, r, he, q⟩ => ?_
  obtain ⟨x, hx, he⟩ := bs he
  refine ⟨ρ, x, r, hx, fun v H1 s1 h1 => ?_⟩
  rcases orD_some he with ⟨kk, rfl, hy, rfl⟩ | ⟨rfl, rfl⟩
  · exact ⟨false, h1.blE, iteF (⟨ρ, _, r.mono s1, hy, fun w H2 s2 h2 => q w H2 (s1.trans s2) (by rw [h2.blE]; exact .bl _)⟩)⟩
  · exact ⟨true, h1.blE, iteT (q _ _ s1 (.bl _))⟩
theorem pe_oneD {op} (h : PE X a (tR X.K H0 f)) : PE X (.BoolOp op [a] pos) (tR X.K H0 f) := pe_one h
theorem pw_andD (ha : PT X a (tT X.K H0 f)) (hb : PW X (.BoolOp .And (b :: rest) pos) (tT X.K H0 g)) : PW X (.BoolOp .And (a :: b :: rest) pos) (tT X.K H0 fun ρ => (f ρ).bind fun x => andD x (g ρ)) := by
  refine pw_mono (pw_and ha hb) fun σ H Q ⟨ρ, d, r, he, q⟩ => ?_
  obtain ⟨x, hx, he⟩ := bs he
  rcases andD_some he with ⟨kk, rfl, hy, e2⟩ | ⟨rfl, e2⟩
  · cases e2
    exact ⟨ρ, true, r, hx, fun H1 s1 => iteT (⟨ρ, _, r.mono s1, hy, fun H2 s2 => q H2 (s1.trans s2)⟩)⟩
  · cases e2
    exact ⟨ρ, false, r, hx, fun H1 s1 => iteF (q H1 s1)⟩
theorem pw_orD (ha : PT X a (tT X.K H0 f)) (hb : PW X (.BoolOp .Or (b :: rest) pos) (tT X.K H0 g)) : PW X (.BoolOp .Or (a :: b :: rest) pos) (tT X.K H0 fun ρ => (f ρ).bind fun x => orD x (g ρ)) := by
  refine pw_mono (pw_or ha hb) fun σ H Q ⟨ρ, d, r, he, q⟩ => ?_
  obtain ⟨x, hx, he⟩ := bs he
  rcases orD_some he with ⟨kk, rfl, hy, e2⟩ | ⟨rfl, e2⟩
  · cases e2
    exact ⟨ρ, false, r, hx, fun H1 s1 => iteF (⟨ρ, _, r.mono s1, hy, fun H2 s2 => q H2 (s1.trans s2)⟩)⟩
  · cases e2
    exact ⟨ρ, true, r, hx, fun H1 s1 => iteT (q H1 s1)⟩
theorem notD_some {x r : PyData} (h : notD x = some r) : ∃ k, x = .bool k ∧ r = .bool (!k) := by
  unfold notD at h
  split at h
  · cases h; exact ⟨_, rfl, rfl⟩
  · cases h
theorem pe_notD (ha : PE X a (tR X.K H0 f)) : PE X (.UnaryOp .Not a pos) (tE X.K H0 fun ρ => (f ρ).bind notD) := by
  refine pe_mono (pe_not ha) fun σ H Q ⟨ρ, d, r, he, q⟩ => ?_
  obtain ⟨x, hx, he⟩ := bs he
  obtain ⟨kk, rfl, rfl⟩ := notD_some he
  exact ⟨ρ, _, r, hx, fun v H1 s1 h1 => ⟨kk, h1.blE, q _ _ s1 (.bl _)⟩⟩
theorem pt_notD (ha : PT X a (tT X.K H0 f)) : PT X (.UnaryOp .Not a pos) (tT X.K H0 fun ρ => (f ρ).bind notD) := by
  refine pt_mono (pt_not ha) fun σ H Q ⟨ρ, d, r, he, q⟩ => ?_
  obtain ⟨x, hx, he⟩ := bs he
  obtain ⟨kk, rfl, e2⟩ := notD_some he
  cases e2
  exact ⟨ρ, _, r, hx, fun H1 s1 => q _ s1⟩
theorem pe_negD (ha : PE X a (tR X.K H0 f)) : PE X (.UnaryOp .USub a pos) (tE X.K H0 fun ρ => (f ρ).bind negD) := by
  refine pe_mono (pe_un un_neg ha) fun σ H Q ⟨ρ, d, r, he, q⟩ => ?_
  obtain ⟨x, hx, he⟩ := bs he
  unfold negD at he
  split at he
  · cases he
    exact ⟨ρ, _, r, hx, fun v H1 s1 h1 => ⟨_, h1.intE, q _ _ s1 (.int _)⟩⟩
  · cases he
theorem pe_idxD (ha : PE X a (tR X.K H0 f)) (hb : PE X b (tR X.K H0 g)) (hs : PlainIx b) : PE X (.Subscript a b pos) (tE X.K H0 fun ρ => (f ρ).bind fun x => (g ρ).bind fun y => idxEv x y) := by
  refine pe_mono (pe_ix ix_seq ha hb hs) fun σ H Q ⟨ρ, d, r, he, q⟩ => ?_
  obtain ⟨x, hx, he⟩ := bs he
  obtain ⟨y, hy, he⟩ := bs he
  exact ⟨ρ, x, r, hx, fun v H1 s1 h1 => ⟨ρ, y, r.mono s1, hy, fun w H2 s2 h2 => rIx_ok (h1.same s2) h2 he fun z H' s3 h3 => q z H' ((s1.trans s2).trans s3) h3⟩⟩
/-! a slice's ends -/
abbrev Evp := Rho → Option (Option Int)
def tP (K : PySem.W.Frag) (H0 : Hp) (f : Evp) : TO := fun σ H Q => ∃ ρ o, RelEnv K H0 H σ ρ ∧ f ρ = some o ∧ ∀ H', Same H H' → Q o H'
theorem po_mono {e : Option Expr} {t t' : TO} (h : PO X e t) (m : ∀ σ H Q, t' σ H Q → t σ H Q) : PO X e t' := ⟨fun pins s σ H Q I q => h.run pins s σ H Q I (m σ H Q q)⟩
theorem po_noneD : PO X none (tP X.K H0 fun _ => some none) := po_mono po_none fun σ H Q ⟨ρ, o, r, he, q⟩ => by cases he; exact q H (Same.refl _)
theorem partEv_some {x : Option PyData} {o : Option Int} (h : partEv x = some o) : ∃ i, x = some (.int i) ∧ o = some i := by
  unfold partEv at h
  split at h
  · cases h; exact ⟨_, rfl, rfl⟩
  · cases h
theorem po_someD (h : PE X e (tR X.K H0 f)) : PO X (some e) (tP X.K H0 fun ρ => partEv (f ρ)) := by
  refine po_mono (po_some h) fun σ H Q ⟨ρ, o, r, he, q⟩ => ?_
  obtain ⟨i, hx, rfl⟩ := partEv_some he
  exact ⟨ρ, _, r, hx, fun v H1 s1 h1 => ⟨i, h1.intE, q _ s1⟩⟩
def slR (K : PySem.W.Frag) (x : V) (lo hi : Option Int) (H : Hp) (Q : VK) : Prop := ∃ d r, HasR K H x d ∧ sliceEv lo hi d = some r ∧ ∀ z H', Same H H' → Has K H' z r → Q z H'
theorem cut_whole {α : Type} {xs : List α} {lo hi : Option Int} (h : HT.sIx xs.length 0 lo = 0 ∧ HT.sIx xs.length xs.length hi = xs.length) : cutA xs lo hi = xs := by
  unfold cutA
  rw [h.1, h.2]
  simp
theorem cutS_eq (z : Str) (lo hi : Option Int) : cutS z lo hi = ⟨(cutA z.cps.toList lo hi).toArray⟩ := by
  unfold cutS cutA
  first | rfl | simp
theorem sl_D : SlR X (fun x lo hi H Q => slR X.K x lo hi H Q) := by
  intro pins s σ H x v vl vu lo hi sl Q I rx hs pl pu h
  obtain ⟨d, r, hd, he, q⟩ := h
  unfold sliceEv at he
  split at he <;> first | (cases he; done) | skip
  · cases he
    obtain ⟨a, xs, rfl, ha, ta⟩ := hd.lstE
    obtain ⟨T, id, h1, h2, h3⟩ := sl_list pins s σ H (.ref a) v vl vu lo hi sl (fun v H' => ∃ a xs, v = .ref a ∧ H' a = some (.lst xs) ∧ ∀ o, Q v (upd H' a (.frz o (.lst xs)))) I rx hs pl pu ⟨a, xs, rfl, rd_sq ha, fun p hp => frz_end (X := X) (pins := pins) (σ := σ) hp (cut_has ta lo hi) q⟩
    exact ⟨T, id, h1, h2, thn h3 fun _ _ z => ep_freeze z⟩
  · cases he
    obtain ⟨a, xs, rfl, ha, ta⟩ := hd.tupE
    refine sl_tupF pins s σ H (.ref a) v vl vu lo hi sl Q I rx hs pl pu ⟨a, xs, rfl, ha.sq, fun hw => ?_, fun _ => tup_end (cut_has ta lo hi) q⟩
    refine q _ _ (Same.refl _) ?_
    rw [ta.length] at hw
    rw [cut_whole hw]
    exact .tup ha ta
  · obtain rfl := hd.strE
    split at he <;> first | (cases he; done) | skip
    rename_i hz
    cases he
    exact sl_str pins s σ H _ v vl vu lo hi sl Q I rx hs pl pu ⟨_, rfl, szOk_le hz, by rw [cutS_eq]; exact q _ _ (Same.refl _) (.str _)⟩
theorem pe_sliceD {lo hi : Option Expr} {fl fh : Evp} {p2 : Pos} (ha : PE X a (tR X.K H0 f)) (hl : PO X lo (tP X.K H0 fl)) (hh : PO X hi (tP X.K H0 fh)) :
    PE X (.Subscript a (.Slice lo hi none p2) pos) (tE X.K H0 fun ρ => (f ρ).bind fun x => (fl ρ).bind fun l => (fh ρ).bind fun h => sliceEv l h x) := by
  refine pe_mono (pe_slice sl_D ha hl hh) fun σ H Q ⟨ρ, d, r, he, q⟩ => ?_
  obtain ⟨x, hx, he⟩ := bs he
  obtain ⟨l, hl, he⟩ := bs he
  obtain ⟨h, hh, he⟩ := bs he
  exact ⟨ρ, x, r, hx, fun v H1 s1 h1 => ⟨ρ, l, r.mono s1, hl, fun H2 s2 => ⟨ρ, h, (r.mono s1).mono s2, hh, fun H3 s3 => ⟨x, d, (h1.same s2).same s3, he, fun z H' s4 h4 => q z H' (((s1.trans s2).trans s3).trans s4) h4⟩⟩⟩⟩
/-! displays, arguments -/
theorem pa_nilE : PA X [] (tAE X.K H0 fun _ => some []) := pa_mono pa_nil fun σ H Q ⟨ρ, ds, r, he, q⟩ => by cases he; exact q [] H (Same.refl _) .nil
theorem pa_consE {es : List Expr} {gs : Evls} (ha : PE X e (tE X.K H0 f)) (hr : PA X es (tAE X.K H0 gs)) (hs : starEach (e :: es) X.env = (false, eval e X.env) :: starEach es X.env) :
    PA X (e :: es) (tAE X.K H0 fun ρ => (f ρ).bind fun d => (gs ρ).bind fun ds => some (d :: ds)) := by
  refine pa_mono (pa_cons ha hr hs) fun σ H Q ⟨ρ, ds, r, he, q⟩ => ?_
  obtain ⟨x, hx, he⟩ := bs he
  obtain ⟨ys, hy, he⟩ := bs he
  cases he
  exact ⟨ρ, x, r, hx, fun v H1 s1 h1 => ⟨ρ, ys, r.mono s1, hy, fun vs H2 s2 h2 => q _ _ (s1.trans s2) (.cons (h1.ext (same_ext s2)) h2)⟩⟩
theorem pa_nilR : PA X [] (tAR X.K H0 fun _ => some []) := pa_mono pa_nil fun σ H Q ⟨ρ, ds, r, he, q⟩ => by cases he; exact q [] H (Same.refl _) .nil
theorem pa_consR {es : List Expr} {gs : Evls} (ha : PE X e (tR X.K H0 f)) (hr : PA X es (tAR X.K H0 gs)) (hs : starEach (e :: es) X.env = (false, eval e X.env) :: starEach es X.env) :
    PA X (e :: es) (tAR X.K H0 fun ρ => (f ρ).bind fun d => (gs ρ).bind fun ds => some (d :: ds)) := by
  refine pa_mono (pa_cons ha hr hs) fun σ H Q ⟨ρ, ds, r, he, q⟩ => ?_
  obtain ⟨x, hx, he⟩ := bs he
  obtain ⟨ys, hy, he⟩ := bs he
  cases he
  exact ⟨ρ, x, r, hx, fun v H1 s1 h1 => ⟨ρ, ys, r.mono s1, hy, fun vs H2 s2 h2 => q _ _ (s1.trans s2) (.cons (h1.same s2) h2)⟩⟩
theorem pe_tupD {es : List Expr} {gs : Evls} {n : Nat} (h : PA X es (tAE X.K H0 gs)) : PE X (.Tuple es n pos) (tE X.K H0 fun ρ => (gs ρ).bind tupD) := by
  refine pe_mono (pe_tupF h) fun σ H Q ⟨ρ, d, r, he, q⟩ => ?_
  obtain ⟨ds, hx, he⟩ := bs he
  unfold tupD at he
  split at he <;> first | (cases he; done) | skip
  rename_i hz
  cases he
  exact ⟨ρ, ds, r, hx, fun vs H1 s1 h1 => ⟨by rw [h1.length]; exact szOk_le hz, tup_end h1 fun z H' s2 h2 => q z H' (s1.trans s2) h2⟩⟩
theorem pe_lstF {es : List Expr} {gs : Evls} (h : PA X es (tAE X.K H0 gs)) : PE X (.List es pos) (tF X.K H0 fun ρ => (gs ρ).bind lstD) := by
  refine pe_mono (pe_lst h) fun σ H Q ⟨ρ, d, r, he, q⟩ => ?_
  obtain ⟨ds, hx, he⟩ := bs he
  unfold lstD at he
  split at he <;> first | (cases he; done) | skip
  rename_i hz
  cases he
  exact ⟨ρ, _, r, hx, fun vs H1 s1 h1 => ⟨by rw [h1.length]; exact szOk_le hz, fun p hp => q p vs _ (s1.trans (same_upd hp _)) (s1.free hp) upd_same (h1.ext (same_ext (same_upd hp _)))⟩⟩
theorem lstD_list {ρ : Rho} {gs : Evls} {d : PyData} (h : (gs ρ).bind lstD = some d) : ∃ ds, d = .list ds := by
  obtain ⟨ds, _, he⟩ := bs h
  unfold lstD at he
  split at he <;> first | (cases he; done) | skip
  cases he
  exact ⟨_, rfl⟩
/-- two lists one behind the other, a new list -/
theorem pe_catF (ha : PE X a (tR X.K H0 f)) (hb : PE X b (tR X.K H0 g)) : PE X (.BinOp a .Add b pos) (tF X.K H0 fun ρ => (f ρ).bind fun x => (g ρ).bind fun y => addEv x y) := by
  refine pe_mono (pe_op op_catR ha hb) fun σ H Q ⟨ρ, ds, r, he, q⟩ => ?_
  obtain ⟨x, hx, he⟩ := bs he
  obtain ⟨y, hy, he⟩ := bs he
  unfold addEv at he
  split at he <;> first | (cases he; done) | skip
  · split at he <;> cases he
  · split at he <;> cases he
  · split at he <;> first | (cases he; done) | skip
    rename_i hz
    cases he
    refine ⟨ρ, _, r, hx, fun v H1 s1 h1 => ⟨ρ, _, r.mono s1, hy, fun w H2 s2 h2 => ?_⟩⟩
    obtain ⟨a', xs, rfl, ra, ta⟩ := (h1.same s2).lstE
    obtain ⟨b', ys, rfl, rb, tb⟩ := h2.lstE
    exact ⟨a', b', xs, ys, rfl, rfl, ra, rb, by rw [ta.length, tb.length]; exact szOk_le hz, fun p hp => q p _ _ ((s1.trans s2).trans (same_upd hp _)) ((s1.trans s2).free hp) upd_same ((ta.append tb).ext (same_ext (same_upd hp _)))⟩
end
end Lr
namespace Lr
open PySem PySem.Spec PyProof.Rows L2
/-! ### built-in calls by data -/
def rG (K : PySem.W.Frag) (g : List PyData → Option PyData) : List V → Hp → VK → Prop := fun xs H Q => ∃ ds r, HasRs K H xs ds ∧ g ds = some r ∧ ∀ z H', Same H H' → Has K H' z r → Q z H'
theorem HasRs.nilE {K : PySem.W.Frag} {H : Hp} {xs : List V} (h : HasRs K H xs []) : xs = [] := by cases h; rfl
theorem HasRs.consE {K : PySem.W.Frag} {H : Hp} {xs : List V} {d : PyData} {ds : List PyData} (h : HasRs K H xs (d :: ds)) : ∃ v vs, xs = v :: vs ∧ HasR K H v d ∧ HasRs K H vs ds := by
  cases h with
  | cons h t => exact ⟨_, _, rfl, h, t⟩
theorem HasRs.oneE {K : PySem.W.Frag} {H : Hp} {xs : List V} {d : PyData} (h : HasRs K H xs [d]) : ∃ v, xs = [v] ∧ HasR K H v d := by
  obtain ⟨v, vs, rfl, h1, h2⟩ := h.consE
  rw [h2.nilE]
  exact ⟨v, rfl, h1⟩
theorem HasRs.twoE {K : PySem.W.Frag} {H : Hp} {xs : List V} {d e : PyData} (h : HasRs K H xs [d, e]) : ∃ v w, xs = [v, w] ∧ HasR K H v d ∧ HasR K H w e := by
  obtain ⟨v, vs, rfl, h1, h2⟩ := h.consE
  obtain ⟨w, rfl, h3⟩ := h2.oneE
  exact ⟨v, w, rfl, h1, h3⟩
section
variable {X : Cx}
theorem cr_imp {f : Value} {r r' : List V → Hp → VK → Prop} (h : CallR X f r) (m : ∀ xs H Q, r' xs H Q → r xs H Q) : CallR X f r' := fun pins s σ H xs us Q I rv q => h pins s σ H xs us Q I rv (m xs H Q q)
theorem cr_len : CallR X (.builtin "len") (rG X.K lenEv) := cr_imp call_len fun xs H Q ⟨ds, r, h, he, q⟩ => by
  unfold lenEv at he
  split at he <;> first | (cases he; done) | skip
  · obtain ⟨v, rfl, h1⟩ := h.oneE
    obtain ⟨a, ys, rfl, ra, ta⟩ := h1.lstE
    cases he
    exact ⟨_, _, rfl, .inl ⟨ys, rd_sq ra, ta.length.symm⟩, q _ _ (Same.refl _) (.int _)⟩
  · obtain ⟨v, rfl, h1⟩ := h.oneE
    obtain ⟨a, ys, rfl, ra, ta⟩ := h1.tupE
    cases he
    exact ⟨_, _, rfl, .inr ⟨ys, ra.sq, ta.length.symm⟩, q _ _ (Same.refl _) (.int _)⟩
  · obtain ⟨v, rfl, h1⟩ := h.oneE
    obtain rfl := h1.strE
    split at he <;> first | (cases he; done) | skip
    rename_i hz
    cases he
    exact ⟨_, _, rfl, ⟨szOk_le hz, rfl⟩, q _ _ (Same.refl _) (.int _)⟩
theorem cr_tuple : CallR X (.type "tuple") (rG X.K tupleEv) := cr_imp call_tupF fun xs H Q ⟨ds, r, h, he, q⟩ => by
  unfold tupleEv at he
  split at he <;> first | (cases he; done) | skip
  · obtain ⟨v, rfl, h1⟩ := h.oneE
    obtain ⟨a, ys, rfl, ra, ta⟩ := h1.lstE
    cases he
    exact ⟨a, ys, rfl, .inl ⟨rd_sq ra, tup_end ta q⟩⟩
  · obtain ⟨v, rfl, h1⟩ := h.oneE
    obtain ⟨a, ys, rfl, ra, ta⟩ := h1.tupE
    cases he
    exact ⟨a, ys, rfl, .inr ⟨ra.sq, q _ _ (Same.refl _) (.tup ra ta)⟩⟩
theorem cr_list : CallR X (.type "list") (rG X.K listEv) := by
  intro pins s σ H xs us Q I rv h
  obtain ⟨ds, r, h, he, q⟩ := h
  unfold listEv at he
  split at he <;> first | (cases he; done) | skip
  · obtain ⟨v, rfl, h1⟩ := h.oneE
    obtain ⟨a, ys, rfl, ra, ta⟩ := h1.lstE
    cases he
    exact thn (call_list_of pins s σ H _ us _ I rv ⟨a, ys, rfl, .inl (rd_sq ra), fun p hp => frz_end (X := X) (pins := pins) (σ := σ) hp ta q⟩) fun _ _ z => ep_freeze z
  · obtain ⟨v, rfl, h1⟩ := h.oneE
    obtain ⟨a, ys, rfl, ra, ta⟩ := h1.tupE
    cases he
    exact thn (call_list_of pins s σ H _ us _ I rv ⟨a, ys, rfl, .inr ra.sq, fun p hp => frz_end (X := X) (pins := pins) (σ := σ) hp ta q⟩) fun _ _ z => ep_freeze z
theorem cr_int : CallR X (.type "int") (rG X.K intEv) := cr_imp call_int1 fun xs H Q ⟨ds, r, h, he, q⟩ => by
  unfold intEv at he
  split at he <;> first | (cases he; done) | skip
  · obtain ⟨v, rfl, h1⟩ := h.oneE
    obtain rfl := h1.blE
    cases he
    exact .inr ⟨_, rfl, q _ _ (Same.refl _) (.int _)⟩
  · obtain ⟨v, rfl, h1⟩ := h.oneE
    obtain rfl := h1.intE
    cases he
    exact .inl ⟨_, rfl, q _ _ (Same.refl _) (.int _)⟩
theorem cr_absD : CallR X (.builtin "abs") (rG X.K absEv) := cr_imp call_abs fun xs H Q ⟨ds, r, h, he, q⟩ => by
  unfold absEv at he
  split at he <;> first | (cases he; done) | skip
  obtain ⟨v, rfl, h1⟩ := h.oneE
  obtain rfl := h1.intE
  cases he
  exact ⟨_, rfl, q _ _ (Same.refl _) (.int _)⟩
theorem cr_max2 (hc : X.calm = true) : CallR X (.builtin "max") (rG X.K max2Ev) := cr_imp (call_max2 hc) fun xs H Q ⟨ds, r, h, he, q⟩ => by
  unfold max2Ev at he
  split at he <;> first | (cases he; done) | skip
  obtain ⟨v, w, rfl, h1, h2⟩ := h.twoE
  obtain rfl := h1.intE
  obtain rfl := h2.intE
  cases he
  exact ⟨_, _, rfl, q _ _ (Same.refl _) (.int _)⟩
theorem bools_has {K : PySem.W.Frag} {H : Hp} : ∀ {ds : List PyData} {bs : List Bool} {ys : List V}, bools ds = some bs → HasAll K H ys ds → ys = bs.map V.bl
  | [], bs, ys, h, t => by cases h; cases t; rfl
  | d :: ds, bs, ys, h, t => by
    unfold bools at h
    split at h <;> first | (cases h; done) | skip
    · rename_i e; cases e
    · rename_i b r e
      cases e
      obtain ⟨rs, h1, rfl⟩ := Option.map_eq_some_iff.mp h
      cases t with
      | cons t1 t2 =>
        cases t1
        rw [bools_has h1 t2]
        rfl
theorem ints_has {K : PySem.W.Frag} {H : Hp} : ∀ {ds : List PyData} {bs : List Int} {ys : List V}, intsD ds = some bs → HasAll K H ys ds → ys = bs.map V.int
  | [], bs, ys, h, t => by cases h; cases t; rfl
  | d :: ds, bs, ys, h, t => by
    unfold intsD at h
    split at h <;> first | (cases h; done) | skip
    · rename_i e; cases e
    · rename_i b r e
      cases e
      obtain ⟨rs, h1, rfl⟩ := Option.map_eq_some_iff.mp h
      cases t with
      | cons t1 t2 =>
        cases t1
        rw [ints_has h1 t2]
        rfl
theorem strs_has {K : PySem.W.Frag} {H : Hp} : ∀ {ds : List PyData} {bs : List Str} {ys : List V}, strsD ds = some bs → HasAll K H ys ds → ys = bs.map V.str
  | [], bs, ys, h, t => by cases h; cases t; rfl
  | d :: ds, bs, ys, h, t => by
    unfold strsD at h
    split at h <;> first | (cases h; done) | skip
    · rename_i e; cases e
    · rename_i b r e
      cases e
      obtain ⟨rs, h1, rfl⟩ := Option.map_eq_some_iff.mp h
      cases t with
      | cons t1 t2 =>
        cases t1
        rw [strs_has h1 t2]
        rfl
theorem cr_anyD (hc : X.calm = true) : CallR X (.builtin "any") (rG X.K anyEv) := cr_imp (cr_any hc) fun xs H Q ⟨ds, r, h, he, q⟩ => by
  unfold anyEv at he
  split at he <;> first | (cases he; done) | skip
  obtain ⟨v, rfl, h1⟩ := h.oneE
  obtain ⟨a, ys, rfl, ra, ta⟩ := h1.lstE
  obtain ⟨bs', hb, rfl⟩ := Option.map_eq_some_iff.mp he
  obtain rfl := bools_has hb ta
  exact ⟨a, bs', rfl, rd_sq ra, q _ _ (Same.refl _) (.bl _)⟩
theorem cr_allD (hc : X.calm = true) : CallR X (.builtin "all") (rG X.K allEv) := cr_imp (cr_all hc) fun xs H Q ⟨ds, r, h, he, q⟩ => by
  unfold allEv at he
  split at he <;> first | (cases he; done) | skip
  obtain ⟨v, rfl, h1⟩ := h.oneE
  obtain ⟨a, ys, rfl, ra, ta⟩ := h1.lstE
  obtain ⟨bs', hb, rfl⟩ := Option.map_eq_some_iff.mp he
  obtain rfl := bools_has hb ta
  exact ⟨a, bs', rfl, rd_sq ra, q _ _ (Same.refl _) (.bl _)⟩
theorem cr_sumD (hc : X.calm = true) : CallR X (.builtin "sum") (rG X.K sumEv) := cr_imp (cr_sum hc) fun xs H Q ⟨ds, r, h, he, q⟩ => by
  unfold sumEv at he
  split at he <;> first | (cases he; done) | skip
  obtain ⟨v, rfl, h1⟩ := h.oneE
  obtain ⟨a, ys, rfl, ra, ta⟩ := h1.lstE
  obtain ⟨bs', hb, rfl⟩ := Option.map_eq_some_iff.mp he
  obtain rfl := ints_has hb ta
  exact ⟨a, bs', rfl, rd_sq ra, q _ _ (Same.refl _) (.int _)⟩
/-! ### isinstance -/
def tyS : Ty → String
  | .str => "str" | .tuple => "tuple" | .int => "int" | .bool => "bool" | .list => "list"
theorem tyX_of {K : PySem.W.Frag} {H : Hp} {x : V} {d : PyData} (h : HasR K H x d) : ∃ s : String, TyX K H x (.type s) ∧ ∀ t : Ty, kitB s (tyS t) = some (isiEv t d) := by
  cases d with
  | none => obtain rfl := h.nonE; exact ⟨_, .base .non, by intro t; cases t <;> first | exact (show _ = some true by decide +kernel) | exact (show _ = some false by decide +kernel)⟩
  | bool b => obtain rfl := h.blE; exact ⟨_, .base (.bl _), by intro t; cases t <;> first | exact (show _ = some true by decide +kernel) | exact (show _ = some false by decide +kernel)⟩
  | int b => obtain rfl := h.intE; exact ⟨_, .base (.int _), by intro t; cases t <;> first | exact (show _ = some true by decide +kernel) | exact (show _ = some false by decide +kernel)⟩
  | str b => obtain rfl := h.strE; exact ⟨_, .base (.str _), by intro t; cases t <;> first | exact (show _ = some true by decide +kernel) | exact (show _ = some false by decide +kernel)⟩
  | list ds =>
    obtain ⟨a, xs, rfl, ra, _⟩ := h.lstE
    refine ⟨"list", ?_, by intro t; cases t <;> first | exact (show _ = some true by decide +kernel) | exact (show _ = some false by decide +kernel)⟩
    rcases ra with ra | ⟨o, ra⟩
    · exact .base (.lst ra)
    · exact .base (.frz ra)
  | tuple ds =>
    obtain ⟨a, xs, rfl, ra, _⟩ := h.tupE
    refine ⟨"tuple", ?_, by intro t; cases t <;> first | exact (show _ = some true by decide +kernel) | exact (show _ = some false by decide +kernel)⟩
    obtain ⟨o, ra, _⟩ := ra
    exact .fTuple ra
  | dict kv => cases (show Has K H x (.dict kv) from h)
theorem pe_isiD {H0 : Hp} {a : Expr} {f : Evl} {p p2 pos : Pos} {x tn : Str} {t : Ty} (hx : x = "isinstance") (htn : tn = Str.ofString (tyS t)) (hg : Gl X x) (hm : X.mg x = none) (hg2 : Gl X tn) (hm2 : X.mg tn = none)
    (ha : PE X a (tR X.K H0 f)) (hs : starEach [a, .Name tn p2] X.env = (false, eval a X.env) :: starEach [.Name tn p2] X.env) :
    PE X (.Call (.Name x p) [a, .Name tn p2] [] pos) (tE X.K H0 fun ρ => (f ρ).bind fun d => some (.bool (isiEv t d))) := by
  subst hx
  have hty : PE X (.Name tn p2) (tC (.ty (tyS t))) := by
    subst htn
    cases t
    · exact pe_bltn (v := .ty "str") (u := .type "str") hg2 hm2 (by decide +kernel) rfl (by decide +kernel) (by decide +kernel)
    · exact pe_bltn (v := .ty "tuple") (u := .type "tuple") hg2 hm2 (by decide +kernel) rfl (by decide +kernel) (by decide +kernel)
    · exact pe_bltn (v := .ty "int") (u := .type "int") hg2 hm2 (by decide +kernel) rfl (by decide +kernel) (by decide +kernel)
    · exact pe_bltn (v := .ty "bool") (u := .type "bool") hg2 hm2 (by decide +kernel) rfl (by decide +kernel) (by decide +kernel)
    · exact pe_bltn (v := .ty "list") (u := .type "list") hg2 hm2 (by decide +kernel) rfl (by decide +kernel) (by decide +kernel)
  refine pe_mono (pe_callB call_isi hg hm boot_isinstance (pa_cons ha (pa_cons hty pa_nil) hs) (by decide) (by decide) hs) fun σ H Q ⟨ρ, d, r, he, q⟩ => ?_
  obtain ⟨y, hy, he⟩ := bs he
  cases he
  refine ⟨ρ, y, r, hy, fun v H1 s1 h1 => ?_⟩
  obtain ⟨sx, h2, h3⟩ := tyX_of h1
  exact ⟨v, _, _, _, _, rfl, .ty _, h2, kit_ty (h3 t), q _ _ s1 (.bl _)⟩
end
end Lr
namespace Lr
open PySem PySem.Spec PyProof.Rows L2
/-! ### side conditions of the text -/
def plainArg : Expr → Bool
  | .Starred _ _ => false
  | _ => true
theorem star_cons {e : Expr} {es : List Expr} {env : Env} (h : plainArg e = true) : starEach (e :: es) env = (false, eval e env) :: starEach es env := by
  cases e <;> first | rfl | (cases h; done)
theorem star_any {pos : Pos} {env : Env} : ∀ {es : List Expr}, es.all plainArg = true → (backTo pos (starEach es env)).any (·.1) = false
  | [], _ => rfl
  | e :: es, h => by
    rw [List.all_cons, Bool.and_eq_true] at h
    rw [star_cons h.1]
    show (false || (backTo pos (starEach es env)).any (·.1)) = false
    rw [Bool.false_or]
    exact star_any h.2
def abOk : Expr → Bool
  | .Call (.Name _ _) [] [] _ => false
  | _ => true
theorem ab_ok {o : Expr} {n : Str} {env : Env} {w : Sem Value} (h : abOk o = true) : attributeBase o n env w = w := by
  unfold attributeBase
  split
  · rename_i id p pos
    cases h
  · rfl
section
variable {X : Cx} {H0 : Hp} {e a b c : Expr} {f g k : Evl} {pos : Pos}
/-! ### join -/
theorem pe_joinD {apos : Pos} {n : Str} (hn : n = "join") (ha : PE X a (tR X.K H0 f)) (hb : PE X b (tR X.K H0 g)) (h1 : plainArg b = true) (h2 : abOk a = true) (h3 : (apos.endLine == pos.line) = true) :
    PE X (.Call (.Attribute a n apos) [b] [] pos) (tE X.K H0 fun ρ => (f ρ).bind fun x => (g ρ).bind fun y => joinEv [x, y]) := by
  subst hn
  refine pe_mono (pe_join ha hb (star_cons h1) (ab_ok h2) h3) fun σ H Q ⟨ρ, d, r, he, q⟩ => ?_
  obtain ⟨x, hx, he1⟩ := bs he
  obtain ⟨y, hy, he2⟩ := bs he1
  unfold joinEv at he2
  split at he2 <;> first | (cases he2; done) | skip
  rename_i sep ds el
  cases el
  obtain ⟨zs, hz, he3⟩ := bs he2
  split at he3 <;> first | (cases he3; done) | skip
  rename_i hok
  cases he3
  refine ⟨ρ, _, r, hx, fun v H1 s1 h1 => ⟨⟨_, h1.strE⟩, ρ, _, r.mono s1, hy, fun w H2 s2 h2 => ?_⟩⟩
  obtain ⟨p, ys, rfl, rp, tp⟩ := h2.lstE
  obtain rfl := strs_has hz tp
  exact ⟨_, p, zs, h1.strE, rfl, .inl (rd_sq rp), (by simpa only [joinOk, decC_eq] using hok), q _ _ (s1.trans s2) (.str _)⟩
/-! ### a def's call -/
def spF (K : PySem.W.Frag) (call : List PyData → Option PyData) : Sp := fun vs H Q _ => ∃ ds d, HasAll K H vs ds ∧ call ds = some d ∧ ∀ v H', Same H H' → Has K H' v d → Q v H'
theorem pe_callD {x : Str} {p : Pos} {es : List Expr} {gs : Evls} {lv : Nat} {fa : Addr} {fd : FuncData} {ps : List Str} {call : List PyData → Option PyData} (F : FnOk X.prog X.w X.K X.mg X.base CX0 lv fa fd ps (spF X.K call)) (hr : Room lv X.A) (hg : Gl X x) (hm : X.mg x = some (.ref fa))
    (hk : PySem.W.keepIn X.K (.ref fa) = true) (hb : Binds X.K fd ps []) (ha : PA X (e :: es) (tAE X.K H0 gs)) (hd : (x == ("__debug__" : Str)) = false) (h1 : (e :: es).all plainArg = true) :
    PE X (.Call (.Name x p) (e :: es) [] pos) (tE X.K H0 fun ρ => (gs ρ).bind call) := by
  rw [List.all_cons, Bool.and_eq_true] at h1
  refine pe_mono (pe_call F hr hg hm hk hb .nil pass0 ha hd (star_cons h1.1) (star_any h1.2)) fun σ H Q ⟨ρ, d, r, he, q⟩ => ?_
  obtain ⟨ds, hx, he⟩ := bs he
  refine ⟨ρ, ds, r, hx, fun vs H1 s1 h1 => ?_⟩
  show spF X.K call (vs ++ []) H1 Q E0
  rw [List.append_nil]
  exact ⟨ds, d, h1, he, fun v H' s2 h2 => q v H' (s1.trans s2) h2⟩
theorem pe_biB {id : String} {x : Str} {p : Pos} {es : List Expr} {gs : Evls} {gg : List PyData → Option PyData} (hc : CallR X (.builtin id) (rG X.K gg)) (hg : Gl X x) (hm : X.mg x = none) (hv : bootBuiltins x = some (.builtin id)) (ha : PA X (e :: es) (tAR X.K H0 gs))
    (hn : x ≠ "__name__") (hd : (x == ("__debug__" : Str)) = false) (h1 : (e :: es).all plainArg = true) : PE X (.Call (.Name x p) (e :: es) [] pos) (tE X.K H0 fun ρ => (gs ρ).bind gg) := by
  rw [List.all_cons, Bool.and_eq_true] at h1
  refine pe_mono (pe_callB hc hg hm hv ha hn hd (star_cons h1.1) (star_any h1.2)) fun σ H Q ⟨ρ, d, r, he, q⟩ => ?_
  obtain ⟨ds, hx, he⟩ := bs he
  exact ⟨ρ, ds, r, hx, fun vs H1 s1 h1 => ⟨ds, d, h1, he, fun v H' s2 h2 => q v H' (s1.trans s2) h2⟩⟩
theorem pe_biT {id : String} {x : Str} {p : Pos} {es : List Expr} {gs : Evls} {gg : List PyData → Option PyData} (hc : CallR X (.type id) (rG X.K gg)) (hg : Gl X x) (hm : X.mg x = none) (hv : bootBuiltins x = some (.type id)) (ha : PA X (e :: es) (tAR X.K H0 gs))
    (hn : x ≠ "__name__") (hd : (x == ("__debug__" : Str)) = false) (h1 : (e :: es).all plainArg = true) : PE X (.Call (.Name x p) (e :: es) [] pos) (tE X.K H0 fun ρ => (gs ρ).bind gg) := by
  rw [List.all_cons, Bool.and_eq_true] at h1
  refine pe_mono (pe_callTy hc hg hm hv ha hn hd (star_cons h1.1) (star_any h1.2)) fun σ H Q ⟨ρ, d, r, he, q⟩ => ?_
  obtain ⟨ds, hx, he⟩ := bs he
  exact ⟨ρ, ds, r, hx, fun vs H1 s1 h1 => ⟨ds, d, h1, he, fun v H' s2 h2 => q v H' (s1.trans s2) h2⟩⟩
end
/-! ### what is walked -/
structure WalkD (K : PySem.W.Frag) (J : It) (ds : List PyData) (G : Hp → Prop) : Prop where
  go : ∀ i H, i < ds.length → G H → J.go i H
  stop : ∀ H, G H → J.stop ds.length H
  yld : ∀ i H x H' d, G H → J.yld i H x H' → ds[i]? = some d → Same H H' ∧ Has K H' x d
def Keeps (m : Bool) (G : Hp → Prop) : Prop := match m with
  | true => ∀ H H', Same H H' → G H → G H'
  | false => ∀ H H', Ext H H' → G H → G H'
def tI (m : Bool) (K : PySem.W.Frag) (H0 : Hp) (f : Evls) : TI := fun σ H R => ∃ ρ ds, RelEnv K H0 H σ ρ ∧ f ρ = some ds ∧ ∀ J H' G, Same H H' → WalkD K J ds G → G H' → Keeps m G → R J H'
theorem pi_mono {X : Cx} {tg e : Expr} {t t' : TI} (h : PI X tg e t) (m : ∀ σ H Q, t' σ H Q → t σ H Q) : PI X tg e t' := ⟨fun pins s σ H Q I q => h.run pins s σ H Q I (m σ H Q q)⟩
theorem walk_list {K : PySem.W.Frag} {a : Addr} {xs : List V} {ds : List PyData} : WalkD K (Itl K a) ds fun H => Rd H a (.lst xs) ∧ HasAll K H xs ds where
  go := fun i H hi ⟨h1, h2⟩ => by
    have hi' : i < xs.length := by rw [h2.length]; exact hi
    exact ⟨xs, xs[i], rd_sq h1, by simp [hi']⟩
  stop := fun H ⟨h1, h2⟩ => ⟨xs, rd_sq h1, by rw [h2.length]; exact Nat.le_refl _⟩
  yld := fun i H x H' d ⟨h1, h2⟩ ⟨e, y⟩ hd => by
    subst e
    obtain ⟨v, h3, h4⟩ := h2.get hd
    have := y xs (rd_sq h1)
    rw [h3] at this
    cases this
    exact ⟨Same.refl _, h4⟩
theorem walk_tup {K : PySem.W.Frag} {a : Addr} {xs : List V} {ds : List PyData} : WalkD K (Itt K a) ds fun H => Tp H a xs ∧ HasAll K H xs ds where
  go := fun i H hi ⟨h1, h2⟩ => by
    have hi' : i < xs.length := by rw [h2.length]; exact hi
    exact ⟨xs, xs[i], h1.sq, by simp [hi']⟩
  stop := fun H ⟨h1, h2⟩ => ⟨xs, h1.sq, by rw [h2.length]; exact Nat.le_refl _⟩
  yld := fun i H x H' d ⟨h1, h2⟩ ⟨e, y⟩ hd => by
    subst e
    obtain ⟨v, h3, h4⟩ := h2.get hd
    have := y xs h1.sq
    rw [h3] at this
    cases this
    exact ⟨Same.refl _, h4⟩
theorem walk_str {K : PySem.W.Frag} {x : Str} : WalkD K (Its x) (signs x) fun _ => True where
  go := fun i H hi _ => by
    show i < x.cps.size
    simpa [signs] using hi
  stop := fun H _ => by
    show x.cps.size ≤ _
    simp [signs]
  yld := fun i H v H' d _ ⟨e, c, hc, ev⟩ hd => by
    subst e ev
    refine ⟨Same.refl _, ?_⟩
    unfold signs at hd
    rw [List.getElem?_map] at hd
    have : x.cps.toList[i]? = some c := by simpa using hc
    rw [this] at hd
    cases hd
    exact .str _
theorem walk_range {K : PySem.W.Frag} {lo : Int} {n : Nat} : WalkD K (Itr lo n) (rangeD lo n) fun _ => True where
  go := fun i H hi _ => by
    show i < n
    simpa [rangeD] using hi
  stop := fun H _ => by
    show n ≤ _
    simp [rangeD]
  yld := fun i H v H' d _ ⟨e, ev⟩ hd => by
    subst e ev
    refine ⟨Same.refl _, ?_⟩
    unfold rangeD at hd
    rw [List.getElem?_map] at hd
    by_cases hi : i < n
    · rw [List.getElem?_range hi] at hd
      cases hd
      exact .int _
    · rw [List.getElem?_eq_none (by simpa using hi)] at hd
      cases hd
theorem keeps_list {m : Bool} {K : PySem.W.Frag} {H : Hp} {v : V} {ds : List PyData} (h : HasR K H v (.list ds)) (hm : m = false → Has K H v (.list ds)) :
    ∃ a xs, v = .ref a ∧ SqL K H a xs ∧ ∃ G : Hp → Prop, (∀ H', G H' → Rd H' a (.lst xs) ∧ HasAll K H' xs ds) ∧ G H ∧ Keeps m G := by
  cases m with
  | true =>
    obtain ⟨a, xs, rfl, h1, h2⟩ := h.lstE
    exact ⟨a, xs, rfl, rd_sq h1, fun H' => Rd H' a (.lst xs) ∧ HasAll K H' xs ds, fun _ z => z, ⟨h1, h2⟩, fun H1 H2 e ⟨z1, z2⟩ => ⟨same_rd e z1, z2.ext (same_ext e)⟩⟩
  | false =>
    cases hm rfl with
    | @lst a xs _ h1 h2 =>
      exact ⟨a, xs, rfl, rd_sq h1.rd, fun H' => Fz H' a xs ∧ HasAll K H' xs ds, fun _ z => ⟨z.1.rd, z.2⟩, ⟨h1, h2⟩, fun H1 H2 e ⟨z1, z2⟩ => ⟨e.fz z1, z2.ext e⟩⟩
theorem WalkD.weaken {K : PySem.W.Frag} {J : It} {ds : List PyData} {G G' : Hp → Prop} (w : WalkD K J ds G) (h : ∀ H, G' H → G H) : WalkD K J ds G' :=
  ⟨fun i H hi g => w.go i H hi (h H g), fun H g => w.stop H (h H g), fun i H x H' d g => w.yld i H x H' d (h H g)⟩
/-- read in mode m -/
def tM (m : Bool) (K : PySem.W.Frag) (H0 : Hp) (f : Evl) : TE := match m with
  | true => tR K H0 f
  | false => tE K H0 f
theorem keeps_true {m : Bool} : Keeps m fun _ => True := by cases m <;> exact fun _ _ _ _ => trivial
section
variable {X : Cx} {H0 : Hp} {e a b c tg : Expr} {f g k : Evl} {pos : Pos}
theorem tM_run {m : Bool} {σ : L2.St} {H : Hp} {Q : VK} {ρ : Rho} {d : PyData} (r : RelEnv X.K H0 H σ ρ) (he : f ρ = some d) (q : ∀ v H', Same H H' → HasR X.K H' v d → (m = false → Has X.K H' v d) → Q v H') : tM m X.K H0 f σ H Q := by
  cases m with
  | true => exact ⟨ρ, d, r, he, fun v H' s h => q v H' s h fun z => by cases z⟩
  | false => exact ⟨ρ, d, r, he, fun v H' s h => q v H' s h.r fun _ => h⟩
/-- an expression that is walked: a list, a tuple or a text, by its data -/
theorem pi_seqD {m : Bool} (he : PE X e (tM m X.K H0 f)) : PI X tg e (tI m X.K H0 fun ρ => (f ρ).bind seqItems) := by
  refine ⟨fun pins s σ H R I ⟨ρ, ds, r, hf, q⟩ => ?_⟩
  obtain ⟨d, hd, hs⟩ := bs hf
  unfold seqItems at hs
  split at hs <;> first | (cases hs; done) | skip
  · split at hs <;> first | (cases hs; done) | skip
    cases hs
    refine (pi_list (tg := tg) he).run pins s σ H R I (tM_run r hd fun v H' sm h1 h2 => ?_)
    obtain ⟨a', xs, rfl, hq, G, hG, g0, kp⟩ := keeps_list h1 h2
    exact ⟨a', rfl, ⟨xs, hq⟩, q _ H' G sm (walk_list.weaken hG) g0 kp⟩
  · split at hs <;> first | (cases hs; done) | skip
    cases hs
    refine (pi_tup (tg := tg) he).run pins s σ H R I (tM_run r hd fun v H' sm h1 h2 => ?_)
    obtain ⟨a', xs, rfl, hq, t⟩ := h1.tupE
    refine ⟨a', rfl, ⟨xs, hq.sq⟩, q _ H' _ sm walk_tup ⟨hq, t⟩ ?_⟩
    cases m with
    | true => exact fun H1 H2 e ⟨z1, z2⟩ => ⟨(same_ext e).tp z1, z2.ext (same_ext e)⟩
    | false => exact fun H1 H2 e ⟨z1, z2⟩ => ⟨e.tp z1, z2.ext e⟩
  · split at hs <;> first | (cases hs; done) | skip
    cases hs
    refine (pi_str (tg := tg) he).run pins s σ H R I (tM_run r hd fun v H' sm h1 h2 => ?_)
    obtain rfl := h1.strE
    exact ⟨_, rfl, q _ H' _ sm walk_str trivial keeps_true⟩
theorem rangeEv_some {lo hi : Int} {ds : List PyData} (h : rangeEv lo hi = some ds) : (-(2 ^ 62) ≤ lo ∧ lo < 2 ^ 62 ∧ -(2 ^ 62) ≤ hi ∧ hi < 2 ^ 62) ∧ ds = rangeD lo (hi - lo).toNat ∧ (hi - lo).toNat ≤ sizeLine := by
  unfold rangeEv at h
  split at h
  · rename_i hz
    simp only [Bool.and_eq_true, decC_eq] at hz
    cases h
    exact ⟨hz.1, rfl, szOk_le hz.2⟩
  · cases h
theorem pi_range1D {m : Bool} {p : Pos} {x : Str} (hx : x = "range") (hg : Gl X x) (hm : X.mg x = none) (ha : PE X a (tR X.K H0 f)) (h1 : plainArg a = true) : PI X tg (.Call (.Name x p) [a] [] pos) (tI m X.K H0 fun ρ => (f ρ).bind range1D) := by
  subst hx
  refine pi_mono (pi_range1 hg hm (pa_cons ha pa_nil (star_cons h1)) (star_cons h1)) fun σ H R ⟨ρ, ds, r, hf, q⟩ => ?_
  obtain ⟨d, hd, hs⟩ := bs hf
  unfold range1D at hs
  split at hs <;> first | (cases hs; done) | skip
  obtain ⟨⟨_, _, b1, b2⟩, rfl, _⟩ := rangeEv_some hs
  refine ⟨ρ, _, r, hd, fun v H1 s1 h1 => ⟨_, by rw [h1.intE], b1, b2, ?_⟩⟩
  rw [Int.sub_zero] at q
  exact q _ H1 _ s1 walk_range trivial keeps_true
theorem pi_range2D {m : Bool} {p : Pos} {x : Str} (hx : x = "range") (hg : Gl X x) (hm : X.mg x = none) (ha : PE X a (tR X.K H0 f)) (hb : PE X b (tR X.K H0 g)) (h1 : plainArg a = true) (h2 : plainArg b = true) :
    PI X tg (.Call (.Name x p) [a, b] [] pos) (tI m X.K H0 fun ρ => (f ρ).bind fun x => (g ρ).bind fun y => range2D x y) := by
  subst hx
  have e2 : starEach [b] X.env = [(false, eval b X.env)] := star_cons h2
  have e1 : starEach [a, b] X.env = [(false, eval a X.env), (false, eval b X.env)] := by rw [star_cons h1, e2]
  refine pi_mono (pi_range2 hg hm (pa_cons ha (pa_cons hb pa_nil (star_cons h2)) (star_cons h1)) e1 e2) fun σ H R ⟨ρ, ds, r, hf, q⟩ => ?_
  obtain ⟨d, hd, hf⟩ := bs hf
  obtain ⟨d2, hd2, hs⟩ := bs hf
  unfold range2D at hs
  split at hs <;> first | (cases hs; done) | skip
  obtain ⟨b1, rfl, _⟩ := rangeEv_some hs
  refine ⟨ρ, _, r, hd, fun v H1 s1 h1 => ⟨ρ, _, r.mono s1, hd2, fun w H2 s2 h2 => ⟨_, _, by rw [h1.intE, h2.intE], b1, ?_⟩⟩⟩
  exact q _ H2 _ (s1.trans s2) walk_range trivial keeps_true
end
end Lr
/-! ### enumerate of a tuple -/
namespace LrE0
open PySem
open PySem.Sem (wp)
open AutoSeq1 (wpAny_loadPart')
abbrev enObj (itv : Addr) : Obj := { cls := .type "enumerate", data := .fields #[.none, .bool false, .ref itv, rawInt 0, .none, .none] }
abbrev tiObj (tu : Addr) : Obj := { cls := .type "tuple_iterator", data := .fields #[.ref tu, .int 0 0] }
set_option maxHeartbeats 1000000 in
theorem new_tu (tu : Addr) (xs : Array Value) (nn : Nat) (dd : Option Addr) (ss : Array (Option Value)) :
    Meets (Builtin.«enumerate.__new__» ⟨[.type "enumerate", .ref tu], []⟩) (fun _ R st => st.heap.get? tu = some { cls := .type "tuple", dict := dd, data := .seq xs nn, slots := ss } ∧
      R (.ok (.ret (.ref (st.heap.push (tiObj tu)).objs.size))) { st with heap := (st.heap.push (tiObj tu)).push (enObj st.heap.objs.size) }) :=
  .of_wp fun prg wd Ar R st q => by
    obtain ⟨h0, g0, d0, t0, o0⟩ := st
    obtain ⟨hl, q⟩ := q
    have hsub := sub_enumerate
    have hT : Heap.IsTuple (Shared.heap ⟨h0, g0, d0, t0, o0⟩) tu xs := ⟨_, hl, rfl, nn, rfl⟩
    wp_walk using wpAny_loadPart' hl
    refine wpAny_stack_any fun stk => wpAny_pure ?_
    split
    · rename_i cc _ _ _ _ _
      cases (cc == Value.type "enumerate") <;> (wp_walk using wpAny_loadPart' hl, wpAny_pyIter_tuple hT; exact ⟨_, rfl, q⟩)
    · wp_walk using wpAny_loadPart' hl, wpAny_pyIter_tuple hT; exact ⟨_, rfl, q⟩
section
variable {prog : Program} {w : World} {A : Around} {E : Value → Shared → Prop} {s : Shared}
theorem call_tu {tu : Addr} {xs : Array Value} {Q : Value → Shared → Prop} (hT : s.heap.IsTuple tu xs)
    (q : ∀ k, IsEnum k (s.heap.objs.size + 1) s.heap.objs.size 0 .none → k.IsTupleIter s.heap.objs.size tu 0 → k.objs.size = s.heap.objs.size + 2 → (∀ b o, s.heap.get? b = some o → k.get? b = some o) → Q (.ref (s.heap.objs.size + 1)) { s with heap := k }) :
    wpAny (model prog w) A (call (.type "enumerate") [.ref tu]) Q E s := by
  obtain ⟨⟨c0, dd, dt, ss⟩, hl, hc0, nn, hd0⟩ := hT
  have hc0 : c0 = .type "tuple" := hc0
  have hd0 : dt = .seq xs nn := hd0
  subst hc0 hd0
  refine callType_new F.called_enumerate (by decide) (F.typeCall_enumerate_1 _) (F.newCall_enumerate_1 _) (fun ob => F.args_object_init_2 ob _) F.entry_enumerate_new (new_tu tu xs nn dd ss) ⟨hl, ?_⟩
  have z1 : (s.heap.push (tiObj tu)).objs.size = s.heap.objs.size + 1 := Heap.size_push ..
  show _ ∧ _
  rw [z1]
  have he : IsEnum ((s.heap.push (tiObj tu)).push (enObj s.heap.objs.size)) (s.heap.objs.size + 1) s.heap.objs.size 0 .none := by
    have t := Heap.get?_push_size (s.heap.push (tiObj tu)) (o := enObj s.heap.objs.size) rfl
    rw [z1] at t
    exact t
  exact ⟨⟨_, he, rfl⟩, q _ he ⟨_, Heap.get?_push_of_some _ (Heap.get?_push_size _ rfl), rfl, rfl⟩ (by rw [Heap.size_push, z1]) fun b o x => Heap.get?_push_of_some _ (Heap.get?_push_of_some _ x)⟩
theorem step_tu {en itv tu : Addr} {i : Nat} {xs : Array Value} {x old : Value} {Q : Value → Shared → Prop} (he : IsEnum s.heap en itv i old) (hit : s.heap.IsTupleIter itv tu i) (hl : s.heap.IsTuple tu xs) (hx : xs[i]? = some x) (hne : en ≠ itv)
    (q : ∀ k, IsEnumOut k en itv ((i : Int) + 1) x s.heap.objs.size → k.IsTupleIter itv tu (i + 1) → k.get? s.heap.objs.size = some { cls := .type "tuple", data := .seq #[.int i s.toks, x] } → k.objs.size = s.heap.objs.size + 1 →
      (∀ b o, b ≠ en → b ≠ itv → s.heap.get? b = some o → k.get? b = some o) → Q (.ref s.heap.objs.size) { s with heap := k, toks := s.toks + 1 }) :
    wpAny (model prog w) A (Builtin.«enumerate.__next__» ⟨[.ref en], []⟩) (fun fi st => ∃ v, fi = .done (.ret v) ∧ Q v st) E s := by
  obtain ⟨hp, g0, d0, tk, o0⟩ := s
  show wpAny _ _ (field (.ref en) 2 >>= _) _ _ _
  refine wpAny_bind (wpAny_field he rfl (x := .ref itv) rfl ?_)
  refine wpAny_bind (RZ.nextOf_tuple_item hit hl hx fun k1 it1 s1 => ?_)
  have s1 : Heap.SameBut itv hp k1 := s1
  have e1 : IsEnum k1 en itv i old := (s1.2 en hne).trans he
  show wpAny _ _ (field (.ref en) 3 >>= _) _ _ ⟨k1, g0, d0, tk, o0⟩
  refine wpAny_bind (wpAny_field e1 rfl (x := rawInt i) rfl ?_)
  show wpAny _ _ (field (.ref en) 4 >>= _) _ _ ⟨k1, g0, d0, tk, o0⟩
  refine wpAny_bind (wpAny_field e1 rfl (x := .none) rfl ?_)
  show wpAny _ _ (mkInt i >>= _) _ _ ⟨k1, g0, d0, tk, o0⟩
  refine wpAny_bind (wpAny_mkInt ?_)
  show wpAny _ _ (setField (.ref en) 3 (rawInt ((i : Int) + 1)) >>= _) _ _ ⟨k1, g0, d0, tk + 1, o0⟩
  refine wpAny_bind (wpAny_setField_rec e1 (by simp) fun k2 e2 s2 => ?_)
  have s2 : Heap.SameBut en k1 k2 := s2
  have e2 : IsEnum k2 en itv ((i : Int) + 1) old := e2
  show wpAny _ _ (setField (.ref en) 4 .none >>= _) _ _ ⟨k2, g0, d0, tk + 1, o0⟩
  refine wpAny_bind (wpAny_setField_rec e2 (by simp) fun k3 e3 s3 => ?_)
  have s3 : Heap.SameBut en k2 k3 := s3
  have e3 : IsEnum k3 en itv ((i : Int) + 1) old := e3
  show wpAny _ _ (newTuple [.int i tk, x] >>= _) _ _ ⟨k3, g0, d0, tk + 1, o0⟩
  refine wpAny_bind (wpAny_newTuple ?_)
  have e4 : IsEnum (k3.push { cls := .type "tuple", data := .seq #[.int i tk, x] }) en itv ((i : Int) + 1) old := Heap.get?_push_of_some _ e3
  generalize kk : k3.push { cls := .type "tuple", data := .seq #[.int i tk, x] } = k4 at e4
  have z3 : k3.objs.size = hp.objs.size := by rw [s3.1, s2.1, s1.1]
  have el : en < hp.objs.size := Heap.lt_size he
  have t4 : k4.get? hp.objs.size = some { cls := .type "tuple", data := .seq #[.int i tk, x] } := by rw [← kk, ← z3]; exact Heap.get?_push_size _ rfl
  have z4 : k4.objs.size = hp.objs.size + 1 := by rw [← kk, Heap.size_push, z3]
  have b4 : ∀ b o, b ≠ en → b ≠ itv → hp.get? b = some o → k4.get? b = some o := fun b o n1 n2 hb => by
    rw [← kk]; exact Heap.get?_push_of_some _ (s3.extBut b o n1 (s2.extBut b o n1 (s1.extBut b o n2 hb)))
  have it4 : k4.IsTupleIter itv tu (i + 1) := by
    rw [← kk]; obtain ⟨o, ho, r⟩ := (it1.extBut s2.extBut (Ne.symm hne)).extBut s3.extBut (Ne.symm hne); exact ⟨o, Heap.get?_push_of_some _ ho, r⟩
  show wpAny _ _ (Builtin.SmallTypes.ownedTupleIsFree (.ref en) >>= _) _ _ ⟨k4, g0, d0, tk + 1, o0⟩
  rw [z3]
  refine wpAny_bind ?_
  unfold Builtin.SmallTypes.ownedTupleIsFree
  refine wpAny_bind (wpAny_field e4 rfl (x := .none) rfl (wpAny_pure ?_))
  simp only [if_true]
  refine wpAny_bind (wpAny_rule (wpAny_bind (wpAny_field e4 rfl (x := old) rfl ?_)))
  refine wpAny_bind (wpAny_setField_rec e4 (by simp) fun k5 e5 s5 => ?_)
  have s5 : Heap.SameBut en k4 k5 := s5
  have e5 : IsEnum k5 en itv ((i : Int) + 1) x := e5
  show wpAny _ _ (Builtin.SmallTypes.ownedTupleHandOut (.ref en) (.ref hp.objs.size) >>= _) _ _ ⟨k5, g0, d0, tk + 1, o0⟩
  refine wpAny_bind ?_
  unfold Builtin.SmallTypes.ownedTupleHandOut
  refine wpAny_bind (wpAny_setField_rec e5 (by simp) fun k6 e6 s6 => ?_)
  have s6 : Heap.SameBut en k5 k6 := s6
  have e6 : IsEnumOut k6 en itv ((i : Int) + 1) x hp.objs.size := e6
  refine wpAny_setField_rec e6 (by simp) fun k7 e7 s7 => ?_
  have s7 : Heap.SameBut en k6 k7 := s7
  have e7 : IsEnumOut k7 en itv ((i : Int) + 1) x hp.objs.size := e7
  have fn := Nat.ne_of_gt el
  exact wpAny_bind (wpAny_letGo (wpAny_pure ⟨_, rfl, q k7 e7 (((it4.extBut s5.extBut (Ne.symm hne)).extBut s6.extBut (Ne.symm hne)).extBut s7.extBut (Ne.symm hne)) (s7.extBut _ _ fn (s6.extBut _ _ fn (s5.extBut _ _ fn t4)))
    (by rw [s7.1, s6.1, s5.1, z4]) fun b o n1 n2 hb => s7.extBut b o n1 (s6.extBut b o n1 (s5.extBut b o n1 (b4 b o n1 n2 hb)))⟩))
theorem next_tu {en itv tu : Addr} {i : Nat} {xs : Array Value} {x old : Value} {Q : Option Value → Shared → Prop} (he : IsEnum s.heap en itv i old) (hit : s.heap.IsTupleIter itv tu i) (hl : s.heap.IsTuple tu xs) (hx : xs[i]? = some x) (hne : en ≠ itv)
    (q : ∀ k, IsEnumOut k en itv ((i : Int) + 1) x s.heap.objs.size → k.IsTupleIter itv tu (i + 1) → k.get? s.heap.objs.size = some { cls := .type "tuple", data := .seq #[.int i s.toks, x] } → k.objs.size = s.heap.objs.size + 1 →
      (∀ b o, b ≠ en → b ≠ itv → s.heap.get? b = some o → k.get? b = some o) → Q (some (.ref s.heap.objs.size)) { s with heap := k, toks := s.toks + 1 }) : wpAny (model prog w) A (pyNext (.ref en)) Q E s := by
  have ty : s.TypeIs (.ref en) "enumerate" := ⟨_, he, rfl⟩
  unfold pyNext
  exact wpAny_bind (wpAny_attempt (wpAny_callSpecial?_slot (name := Str.ofString "__next__") ty F.slot_enumerate_next (wpAny_call_entry F.slot_enumerate_next ty F.entry_enumerate_next
    (step_tu he hit hl hx hne fun k a b c d e => wpAny_pure (q k a b c d e)) (F.args_enumerate_next_1 _))))
theorem end_tu {en itv tu : Addr} {i : Nat} {xs : Array Value} {old : Value} {Q : Option Value → Shared → Prop} (hh : A.handled = none) (he : IsEnum s.heap en itv i old) (hit : s.heap.IsTupleIter itv tu i) (hl : s.heap.IsTuple tu xs) (hx : xs[i]? = none)
    (q : ∀ k, Heap.ExtBut itv s.heap k → Q none { s with heap := k }) : wpAny (model prog w) A (pyNext (.ref en)) Q E s := by
  have ty : s.TypeIs (.ref en) "enumerate" := ⟨_, he, rfl⟩
  unfold pyNext
  refine wpAny_bind (wpAny_attempt (wpAny_callSpecial?_slot (name := Str.ofString "__next__") ty F.slot_enumerate_next (wpAny_call_entry F.slot_enumerate_next ty F.entry_enumerate_next ?_ (F.args_enumerate_next_1 _))))
  show wpAny _ _ (field (.ref en) 2 >>= _) _ _ _
  refine wpAny_bind (wpAny_field he rfl (x := .ref itv) rfl (wpAny_bind (RZ.nextOf_tuple_end hh hit hl hx fun k y e' y' => ?_)))
  obtain ⟨o, ho, hc⟩ := y'
  exact wpAny_bind (wpAny_isInstance (T := "StopIteration") (b := true) ⟨o, ho, hc⟩ isSubtype_stop (wpAny_pure (q _ e')))
end
end LrE0
namespace Lr
open PySem PySem.Spec PyProof.Rows L2
/-- the tuple at a, each item in a new pair -/
def ItEt (K : PySem.W.Frag) (a : Addr) : It where
  go := fun i H => ∃ (xs : List V) (x : V), SqT K H a xs ∧ xs[i]? = some x
  yld := fun i H v H' => ∃ T x o, v = .ref T ∧ H T = none ∧ o.dict = none ∧ H' = upd H T (.frz o (.tup [.int (i : Nat), x])) ∧ ∀ xs, SqT K H a xs → xs[i]? = some x
  stop := fun i H => ∃ xs : List V, SqT K H a xs ∧ xs.length ≤ i
theorem turn_et {P : Program} {w : World} {K : PySem.W.Frag} {elts : List Expr} {kk : Nat} {tpos : Pos} (a en itv : Addr) :
    Turn P w K (.Tuple elts kk tpos) (ItEt K a) [en, itv] en (fun i h => (∃ old, IsEnum h en itv ((i : Nat) : Int) old) ∧ h.IsTupleIter itv a i ∧ en ≠ itv) where
  mem := by simp
  obj := fun i h st b hb => by
    obtain ⟨⟨old, he⟩, ⟨o, ho, hc, hd⟩, _⟩ := st
    rcases (by simpa using hb : b = en ∨ b = itv) with z | z
    · rw [z]; exact ⟨_, he, fun v q => nomatch q⟩
    · rw [z]; exact ⟨o, ho, fun v q => by rw [hd] at q; cases q⟩
  keep := fun i h h' st k => let ⟨⟨old, he⟩, hi, hne⟩ := st; ⟨⟨old, k en (by simp) _ he⟩, hi.at fun o q => k itv (by simp) o q, hne⟩
  item := by
    intro X hP hw hK hc i pins s σ H E I hf st hg
    subst hP hw hK
    obtain ⟨⟨old, he⟩, hit, hne⟩ := st
    obtain ⟨xs, x, hq, hx⟩ := hg
    obtain ⟨its, rv, p, hz⟩ := I.tuple hq
    obtain ⟨u, hu, ru⟩ := rv.get hx
    have l1 : en < s.heap.objs.size := Heap.lt_size he
    have l2 : itv < s.heap.objs.size := by obtain ⟨_, q, _⟩ := hit; exact Heap.lt_size q
    refine LrE0.next_tu he hit (show s.heap.IsTuple a its.toArray from p) (x := u) (by simpa using hu) hne fun h' ho hit' hT hsz hk => ?_
    refine ⟨_, rfl, wpAny_letOwnedTupleGo_enum (s := { s with heap := h', toks := s.toks + 1 }) ho fun h2 he' sb => ?_⟩
    have hT2 : h2.get? s.heap.objs.size = some { cls := .type "tuple", data := .seq #[.int i s.toks, u] } := (sb.2 _ (Nat.ne_of_gt l1)).trans hT
    have new : ObjOk X.prog X.w (upd H s.heap.objs.size (.frz (tO [.int i s.toks, u]) (.tup [.int (i : Nat), x]))) h2 s.heap.objs.size (.frz (tO [.int i s.toks, u]) (.tup [.int (i : Nat), x])) := ⟨hT2, by show 2 ≤ sizeLine; decide, [.int i s.toks, u], .cons ⟨_, rfl⟩ (.cons ru .nil), ⟨_, hT2, rfl, _, rfl⟩⟩
    have I1 : Inv X pins σ (upd H s.heap.objs.size (.frz (tO [.int i s.toks, u]) (.tup [.int (i : Nat), x]))) { s with heap := h2, toks := s.toks + 1 } := I.turnedNew (ch := [en, itv]) (fun b ob hb q => (sb.2 b (fun z => hb (by simp [z]))).trans (hk b ob (fun z => hb (by simp [z])) (fun z => hb (by simp [z])) q)) hf (Nat.le_refl _) new
    refine ⟨.ref s.heap.objs.size, _, I1, rfl, ⟨_, x, _, rfl, I.hok.fresh (Nat.le_refl _), rfl, rfl, fun ys hy => by rw [I.tuple_inj hy hq]; exact hx⟩, ⟨⟨u, ?_⟩, hit'.at fun o q => (sb.2 itv (Ne.symm hne)).trans q, hne⟩, fun b hb => ?_⟩
    · rw [show ((i + 1 : Nat) : Int) = (i : Int) + 1 by omega]; exact he'
    · have hb' : b < s.heap.objs.size := by
        rcases (by simpa using hb : b = en ∨ b = itv) with z | z
        · rw [z]; exact l1
        · rw [z]; exact l2
      rw [upd_ne (Nat.ne_of_lt hb')]
      exact (hf b hb).1
  done := by
    intro X hP hw hK hc i pins s σ H E I hf st hg
    subst hP hw hK
    obtain ⟨⟨old, he⟩, hit, hne⟩ := st
    obtain ⟨xs, hq, hx⟩ := hg
    obtain ⟨its, rv, p, hz⟩ := I.tuple hq
    obtain ⟨f0, f1, f2, f3, f4, f5⟩ := hf itv (by simp)
    have hl := rv.length
    exact LrE0.end_tu (I.ok.hd hc) he hit (show s.heap.IsTuple a its.toArray from p) (by simp; omega) fun h' eb => ⟨rfl, I.turned (t' := s.toks) (fun b o hb q => eb b o hb q) f0 f1 f3 f4 f5⟩
  self := fun A i s Q E st h => let ⟨⟨_, he⟩, _⟩ := st; wpAny_pyIter_enum he h
/-- the list at a, each item in a new pair -/
def ItEl (K : PySem.W.Frag) (a : Addr) : It where
  go := fun i H => ∃ (xs : List V) (x : V), SqL K H a xs ∧ xs[i]? = some x
  yld := fun i H v H' => ∃ T x o, v = .ref T ∧ H T = none ∧ o.dict = none ∧ H' = upd H T (.frz o (.tup [.int (i : Nat), x])) ∧ ∀ xs, SqL K H a xs → xs[i]? = some x
  stop := fun i H => ∃ xs : List V, SqL K H a xs ∧ xs.length ≤ i
theorem turn_el {P : Program} {w : World} {K : PySem.W.Frag} {elts : List Expr} {kk : Nat} {tpos : Pos} (a en itv : Addr) :
    Turn P w K (.Tuple elts kk tpos) (ItEl K a) [en, itv] en (fun i h => (∃ old, IsEnum h en itv ((i : Nat) : Int) old) ∧ h.IsListIter itv a i ∧ en ≠ itv) where
  mem := by simp
  obj := fun i h st b hb => by
    obtain ⟨⟨old, en'⟩, ⟨ob, hob, _, dob⟩, _⟩ := st
    rcases (by simpa using hb : b = en ∨ b = itv) with z | z
    · subst z; exact ⟨_, en', fun v q => nomatch q⟩
    · subst z; exact ⟨ob, hob, fun v q => by rw [dob] at q; cases q⟩
  keep := fun i h h' st kp => let ⟨⟨old, en'⟩, il, ne⟩ := st; ⟨⟨old, kp en (by simp) _ en'⟩, il.at fun o q => kp itv (by simp) o q, ne⟩
  item := by
    intro Y eP ew eK hc i pins s σ H E I fp st hg
    subst eP ew eK
    obtain ⟨⟨old, en'⟩, il, ne⟩ := st
    obtain ⟨ws, wv, hw, hwi⟩ := hg
    obtain ⟨us, rel, pl, hz⟩ := I.list hw
    obtain ⟨u, hu, ru⟩ := rel.get hwi
    have lt1 : en < s.heap.objs.size := Heap.lt_size en'
    have lt2 : itv < s.heap.objs.size := by obtain ⟨_, q, _⟩ := il; exact Heap.lt_size q
    refine wpAny_pyNext_enum_item en' il pl.isList (x := u) (by simpa using hu) ne fun k1 out il' gT sz kp => ?_
    refine ⟨_, rfl, wpAny_letOwnedTupleGo_enum (s := { s with heap := k1, toks := s.toks + 1 }) out fun k2 en2 sb => ?_⟩
    have gT2 : k2.get? s.heap.objs.size = some (tO [.int i s.toks, u]) := (sb.2 _ (Nat.ne_of_gt lt1)).trans gT
    have fin : ObjOk Y.prog Y.w (upd H s.heap.objs.size (.frz (tO [.int i s.toks, u]) (.tup [.int (i : Nat), wv]))) k2 s.heap.objs.size (.frz (tO [.int i s.toks, u]) (.tup [.int (i : Nat), wv])) := ⟨gT2, by show 2 ≤ sizeLine; decide, [.int i s.toks, u], .cons ⟨_, rfl⟩ (.cons ru .nil), ⟨_, gT2, rfl, _, rfl⟩⟩
    have J : Inv Y pins σ (upd H s.heap.objs.size (.frz (tO [.int i s.toks, u]) (.tup [.int (i : Nat), wv]))) { s with heap := k2, toks := s.toks + 1 } := I.turnedNew (ch := [en, itv]) (fun b ob nb q => (sb.2 b (fun z => nb (by simp [z]))).trans (kp b ob (fun z => nb (by simp [z])) (fun z => nb (by simp [z])) q)) fp (Nat.le_refl _) fin
    refine ⟨.ref s.heap.objs.size, _, J, rfl, ⟨_, wv, _, rfl, I.hok.fresh (Nat.le_refl _), rfl, rfl, fun ys hy => by rw [I.list_inj hy hw]; exact hwi⟩, ⟨⟨u, ?_⟩, il'.at fun o q => (sb.2 itv (Ne.symm ne)).trans q, ne⟩, fun b nb => ?_⟩
    · rw [show ((i + 1 : Nat) : Int) = (i : Int) + 1 by omega]; exact en2
    · have bl : b < s.heap.objs.size := by
        rcases (by simpa using nb : b = en ∨ b = itv) with z | z
        · subst z; exact lt1
        · subst z; exact lt2
      rw [upd_ne (Nat.ne_of_lt bl)]
      exact (fp b nb).1
  done := by
    intro Y eP ew eK hc i pins s σ H E I fp st hg
    subst eP ew eK
    obtain ⟨⟨old, en'⟩, il, ne⟩ := st
    obtain ⟨ws, hw, hwi⟩ := hg
    obtain ⟨us, rel, pl, hz⟩ := I.list hw
    obtain ⟨g0, g1, _, g3, g4, g5⟩ := fp itv (by simp)
    have hl := rel.length
    exact wpAny_pyNext_enum_end (I.ok.hd hc) en' il pl.isList (by simp; omega) fun k1 eb => ⟨rfl, I.turned (t' := s.toks) (fun b ob nb q => eb b ob nb q) g0 g1 g3 g4 g5⟩
  self := fun A i s Q E st q => let ⟨⟨_, en'⟩, _⟩ := st; wpAny_pyIter_enum en' q
/-- enumerate of a list or of a tuple -/
def iEn (K : PySem.W.Frag) (ta : TA) : TI := fun σ H R => ta σ H fun vs H1 => ∃ a, vs = [.ref a] ∧ ((∃ xs, SqL K H1 a xs ∧ R (ItEl K a) H1) ∨ ∃ xs, SqT K H1 a xs ∧ R (ItEt K a) H1)
theorem pi_en {X : Cx} {e : Expr} {ta : TA} {p pos tpos : Pos} {elts : List Expr} {kk : Nat} (hg : Gl X "enumerate") (hm : X.mg "enumerate" = none) (ha : PA X [e] ta) (hs : starEach [e] X.env = [(false, eval e X.env)]) :
    PI X (.Tuple elts kk tpos) (.Call (.Name "enumerate" p) [e] [] pos) (iEn X.K ta) := by
  refine ⟨fun pins s σ H R I h => Call_ (ld_blt I hg hm boot_enumerate (PyProof.Rows.callWith_type1 (thn (ha.run pos pins s σ H _ I h) fun us s1 ⟨vs, H1, I1, r1, a, ex, q⟩ => ?_) hs rfl))⟩
  subst ex
  cases r1 with
  | cons r rr =>
    cases rr
    cases r
    have fp : ∀ b, b ∈ [s1.heap.objs.size + 1, s1.heap.objs.size] → FpOk X pins H1 b := fun b hb => by
      have hle : s1.heap.objs.size ≤ b := by
        rcases (by simpa using hb : b = s1.heap.objs.size + 1 ∨ b = s1.heap.objs.size) with z | z
        · rw [z]; exact Nat.le_add_right _ _
        · rw [z]; exact Nat.le_refl _
      exact I1.fpOk hle (I1.hok.fresh hle)
    rcases q with ⟨xs, hq, q⟩ | ⟨xs, hq, q⟩
    · obtain ⟨its, rv, p', hz⟩ := I1.list hq
      refine call_enumerate_list p'.isList fun h' he hit hsz hk => wpAny_pyIter_enum he ?_
      have I2 : Inv X pins σ H1 { s1 with heap := h' } := I1.kept (t' := s1.toks) hk
      exact ⟨s1.heap.objs.size + 1, _, _, _, H1, rfl, I2, turn_el a (s1.heap.objs.size + 1) s1.heap.objs.size, ⟨⟨.none, he⟩, hit, Nat.succ_ne_self _⟩, fp, q⟩
    · obtain ⟨its, rv, p', hz⟩ := I1.tuple hq
      refine LrE0.call_tu (show s1.heap.IsTuple a its.toArray from p') fun h' he hit hsz hk => wpAny_pyIter_enum he ?_
      have I2 : Inv X pins σ H1 { s1 with heap := h' } := I1.kept (t' := s1.toks) hk
      exact ⟨s1.heap.objs.size + 1, _, _, _, H1, rfl, I2, turn_et a (s1.heap.objs.size + 1) s1.heap.objs.size, ⟨⟨.none, he⟩, hit, Nat.succ_ne_self _⟩, fp, q⟩
theorem enum_get {ds : List PyData} {i : Nat} {d : PyData} (h : (enumD ds)[i]? = some d) : ∃ x, ds[i]? = some x ∧ d = .tuple [.int (i : Nat), x] := by
  unfold enumD at h
  rw [List.getElem?_map, List.getElem?_zipIdx] at h
  cases hx : ds[i]? with
  | none => rw [hx] at h; cases h
  | some x => rw [hx] at h; cases h; exact ⟨x, rfl, by simp⟩
theorem enum_len {ds : List PyData} : (enumD ds).length = ds.length := by simp [enumD]
theorem walk_enL {K : PySem.W.Frag} {a : Addr} {xs : List V} {ds : List PyData} : WalkD K (ItEl K a) (enumD ds) fun H => Rd H a (.lst xs) ∧ HasAll K H xs ds where
  go := fun i H hi ⟨h1, h2⟩ => by
    have hi' : i < xs.length := by rw [h2.length, ← enum_len]; exact hi
    exact ⟨xs, xs[i], rd_sq h1, by simp [hi']⟩
  stop := fun H ⟨h1, h2⟩ => ⟨xs, rd_sq h1, by rw [h2.length, enum_len]; exact Nat.le_refl _⟩
  yld := fun i H x H' d ⟨h1, h2⟩ ⟨T, y, o, e1, e2, eo, e3, e4⟩ hd => by
    obtain ⟨z, hz, rfl⟩ := enum_get hd
    obtain ⟨v, h3, h4⟩ := h2.get hz
    have q := e4 xs (rd_sq h1)
    rw [h3] at q
    cases q
    subst e1 e3
    have sm : Same H (upd H T (.frz o (.tup [.int (i : Nat), y]))) := same_upd e2 _
    exact ⟨sm, .tup ⟨o, upd_same, eo⟩ (.cons (.int _) (.cons (h4.ext (same_ext sm)) .nil))⟩
theorem walk_enT {K : PySem.W.Frag} {a : Addr} {xs : List V} {ds : List PyData} : WalkD K (ItEt K a) (enumD ds) fun H => Tp H a xs ∧ HasAll K H xs ds where
  go := fun i H hi ⟨h1, h2⟩ => by
    have hi' : i < xs.length := by rw [h2.length, ← enum_len]; exact hi
    exact ⟨xs, xs[i], h1.sq, by simp [hi']⟩
  stop := fun H ⟨h1, h2⟩ => ⟨xs, h1.sq, by rw [h2.length, enum_len]; exact Nat.le_refl _⟩
  yld := fun i H x H' d ⟨h1, h2⟩ ⟨T, y, o, e1, e2, eo, e3, e4⟩ hd => by
    obtain ⟨z, hz, rfl⟩ := enum_get hd
    obtain ⟨v, h3, h4⟩ := h2.get hz
    have q := e4 xs h1.sq
    rw [h3] at q
    cases q
    subst e1 e3
    have sm : Same H (upd H T (.frz o (.tup [.int (i : Nat), y]))) := same_upd e2 _
    exact ⟨sm, .tup ⟨o, upd_same, eo⟩ (.cons (.int _) (.cons (h4.ext (same_ext sm)) .nil))⟩
section
variable {X : Cx} {H0 : Hp} {e : Expr} {f : Evl} {pos : Pos}
theorem pi_enumD {m : Bool} {p tpos : Pos} {elts : List Expr} {kk : Nat} {x : Str} (hx : x = "enumerate") (hg : Gl X x) (hm : X.mg x = none) (he : PE X e (tM m X.K H0 f)) (h1 : plainArg e = true) : PI X (.Tuple elts kk tpos) (.Call (.Name x p) [e] [] pos) (tI m X.K H0 fun ρ => (f ρ).bind enumEv) := by
  subst hx
  refine pi_mono (pi_en hg hm (pa_cons he pa_nil (star_cons h1)) (star_cons h1)) fun σ H R ⟨ρ, ds, r, hf, q⟩ => ?_
  obtain ⟨d, hd, hs⟩ := bs hf
  unfold enumEv at hs
  refine tM_run r hd fun v H' sm h1 h2 => ?_
  split at hs <;> first | (cases hs; done) | skip
  · split at hs <;> first | (cases hs; done) | skip
    cases hs
    obtain ⟨a', xs, rfl, hq, G, hG, g0, kp⟩ := keeps_list h1 h2
    exact ⟨a', rfl, .inl ⟨xs, hq, q _ H' G sm (walk_enL.weaken hG) g0 kp⟩⟩
  · split at hs <;> first | (cases hs; done) | skip
    cases hs
    obtain ⟨a', xs, rfl, hq, t⟩ := h1.tupE
    refine ⟨a', rfl, .inr ⟨xs, hq.sq, q _ H' _ sm walk_enT ⟨hq, t⟩ ?_⟩⟩
    cases m with
    | true => exact fun H1 H2 e ⟨z1, z2⟩ => ⟨(same_ext e).tp z1, z2.ext (same_ext e)⟩
    | false => exact fun H1 H2 e ⟨z1, z2⟩ => ⟨e.tp z1, z2.ext e⟩
end
end Lr
/-! ### xs[::-1] of a list or of a tuple -/
namespace LrE0
open PySem PyProof.Rows
open PySem.Sem (wp)
theorem adj_rev (n : Nat) : Builtin.Slice.sliceAdjust none none (-1) (n : Int) = ((n : Int) - 1, -1) := by
  unfold Builtin.Slice.sliceAdjust
  first | rfl | simp
theorem pl_rev (n : Nat) : Builtin.Slice.slicePlaces ((n : Int) - 1) (-1) (-1) = n := by
  unfold Builtin.Slice.slicePlaces
  have h1 : ¬ ((-1 : Int) > 0) := by decide
  simp only [h1, if_false]
  split
  · simp only [show (- -1 : Int) = 1 by decide, Int.ediv_one]; omega
  · omega
theorem pick_rev (xs : Array Value) : ((List.range xs.size).filterMap fun (m : Nat) => xs[((xs.size : Int) - 1 + (m : Int) * (-1)).toNat]?).toArray = xs.toList.reverse.toArray := by
  congr 1
  apply List.ext_getElem?
  intro i
  have e : ∀ m ∈ List.range xs.size, xs[((xs.size : Int) - 1 + (m : Int) * (-1)).toNat]? = (fun m => xs.toList.reverse[m]?) m := by
    intro m hm
    have := List.mem_range.mp hm
    show _ = xs.toList.reverse[m]?
    have hl : xs.toList.length = xs.size := Array.length_toList
    rw [List.getElem?_reverse (by omega)]
    have : ((xs.size : Int) - 1 + (m : Int) * (-1)).toNat = xs.toList.length - 1 - m := by omega
    rw [this]
    simp
  have q : (List.range xs.size).filterMap (fun (m : Nat) => xs[((xs.size : Int) - 1 + (m : Int) * (-1)).toNat]?) = (List.range xs.toList.reverse.length).filterMap fun m => xs.toList.reverse[m]? := by
    have : xs.toList.reverse.length = xs.size := by simp
    rw [this]
    exact filterMap_eq e
  rw [q]
  congr 1
  exact all_get _
where
  filterMap_eq {α β : Type} {f g : α → Option β} : ∀ {l : List α}, (∀ x ∈ l, f x = g x) → l.filterMap f = l.filterMap g
    | [], _ => rfl
    | x :: l, h => by
      rw [List.filterMap_cons, List.filterMap_cons, h x List.mem_cons_self, filterMap_eq fun y hy => h y (List.mem_cons_of_mem _ hy)]
  all_get (l : List Value) : (List.range l.length).filterMap (fun m => l[m]?) = l := by
    induction l with
    | nil => rfl
    | cons x l ih =>
      rw [List.length_cons, List.range_succ_eq_map, List.filterMap_cons]
      simp only [List.getElem?_cons_zero]
      rw [List.filterMap_map]
      congr 1
section
variable {prog : Program} {w : World} {A : Around} {E : Value → Shared → Prop} {s : Shared}
theorem applied_rev {sl : Addr} {vl vu vs : Value} {n : Nat} {Q : Int × Int × Nat → Shared → Prop} (hs : s.heap.IsSliceOf sl vl vu vs) (pl : IsPart vl none) (pu : IsPart vu none) (ps : IsPart vs (some (-1)))
    (h : Q ((n : Int) - 1, -1, n) s) : wpAny (model prog w) A (Builtin.Slice.sliceApplied (.ref sl) (pure (n : Int))) Q E s := by
  obtain ⟨os, ho, hcl, hda⟩ := id hs
  unfold Builtin.Slice.sliceApplied Builtin.Slice.sliceFields
  refine wpAny_bind (wpAny_bind (wpAny_field ho hda (x := vl) rfl (wpAny_bind (wpAny_field ho hda (x := vu) rfl (wpAny_bind (wpAny_field ho hda (x := vs) rfl (wpAny_pure ?_)))))))
  refine wpAny_bind (HT.slicePart_ ps ?_)
  show wpAny _ _ (if ((-1 : Int) == 0) = true then _ else _) _ _ s
  rw [if_neg (by decide)]
  refine wpAny_bind (HT.slicePart_ pl (wpAny_bind (HT.slicePart_ pu (wpAny_bind (wpAny_pure ?_)))))
  show wpAny _ _ (match Builtin.Slice.sliceAdjust none none (-1) (n : Int) with | (lo, hi) => pure (lo, (-1 : Int), Builtin.Slice.slicePlaces lo hi (-1))) _ _ s
  rw [adj_rev n]
  show wpAny _ _ (pure ((n : Int) - 1, (-1 : Int), Builtin.Slice.slicePlaces ((n : Int) - 1) (-1) (-1))) _ _ s
  rw [pl_rev]
  exact wpAny_pure h
theorem item_rev {t sl : Addr} {xs : Array Value} {vl vu vs : Value} {Q : Value → Shared → Prop} (ht : IsTup s.heap t xs) (hs : s.heap.IsSliceOf sl vl vu vs) (pl : IsPart vl none) (pu : IsPart vu none) (ps : IsPart vs (some (-1)))
    (h : Q (.ref s.heap.objs.size) { s with heap := s.heap.push { cls := .type "tuple", data := .seq xs.toList.reverse.toArray } }) (hsz : xs.size ≤ sizeLine) : wpAny (model prog w) A (getItem (.ref t) (.ref sl)) Q E s := by
  have hz : sizeOk (.seq xs.toList.reverse.toArray) := by
    show xs.toList.reverse.toArray.size ≤ sizeLine
    simpa using hsz
  obtain ⟨os, ho, hcl, hda⟩ := id hs
  have hTs : s.TypeIs (.ref sl) "slice" := ⟨os, ho, hcl⟩
  unfold getItem
  try with_reducible refine wpAny_holding ?_
  try refine wpAny_bind (wpAny_pure ?_)
  refine wpAny_bind (wpAny_sequenceKey ht.typeIs (by decide) (wpAny_bind (wpAny_callSpecial?_slot (name := Str.ofString "__getitem__") ht.typeIs PyProof.Rows.slot_tuple_getitem (wpAny_call_entry PyProof.Rows.slot_tuple_getitem ht.typeIs entry_tuple_getitem ?_ (args_tuple_getitem _ _)))))
  show wpAny _ _ (Builtin.Tuple.tupleItemsOf (.ref t) >>= _) _ _ s
  refine wpAny_bind (tupleItemsOf_ ht (wpAny_bind (wpAny_typeOf hTs ?_)))
  rw [if_pos (by decide)]
  refine wpAny_bind (applied_rev hs pl pu ps ?_)
  have hno : ¬ ((((xs.size : Int) - 1) == 0 && (-1 : Int) == 1 && xs.size == xs.size) = true) := by
    intro q
    rw [Bool.and_eq_true, Bool.and_eq_true] at q
    exact absurd q.1.2 (by decide)
  show wpAny _ _ (if (((xs.size : Int) - 1) == 0 && (-1 : Int) == 1 && xs.size == xs.size) = true then _ else _) _ _ s
  rw [if_neg hno, pick_rev]
  first
    | exact wpAny_bind (wpAny_bind (m := Builtin.Tuple.tupleExact _) (wpAny_newObj_type (wpAny_pure (wpAny_pure ⟨_, rfl, wpAny_pure h⟩)) hz))
    | exact wpAny_bind (m := Builtin.Tuple.tupleExact _) (wpAny_newObj_type (wpAny_pure ⟨_, rfl, wpAny_pure h⟩) hz)
    | exact wpAny_bind (m := Builtin.Tuple.tupleExact _) (wpAny_newObj_type (wpAny_bind (wpAny_pure (wpAny_pure ⟨_, rfl, wpAny_pure h⟩))) hz)
    | exact wpAny_bind (wpAny_bind (m := Builtin.Tuple.tupleExact _) (wpAny_newObj_type (wpAny_pure ⟨_, rfl, wpAny_pure h⟩) hz))
end
end LrE0
namespace Lr
open PySem PySem.Spec PyProof.Rows L2
section
variable {X : Cx} {H0 : Hp} {a : Expr} {f : Evl} {pos : Pos}
def tRevA (K : PySem.W.Frag) (te : TE) : TE := fun σ H Q => te σ H fun x H1 => ∃ a xs, x = .ref a ∧ ((SqL K H1 a xs ∧ ∀ p, H1 p = none → ∀ o, Q (.ref p) (upd (upd H1 p (.lst xs.reverse)) p (.frz o (.lst xs.reverse)))) ∨ (SqT K H1 a xs ∧ nT H1 xs.reverse Q))
theorem pe_revA {e : Expr} {te : TE} {k : Nat} {p1 p2 p3 : Pos} (he : PE X e te) : PE X (.Subscript e (.Slice none none (some (.UnaryOp .USub (.Constant (.int 1) k p1) p2)) p3) pos) (tRevA X.K te) := by
  refine ⟨fun pins s σ H Q I h => Subscript_ (thn (he.run pins s σ H _ I h) fun v s1 ⟨x, H1, I1, r1, a, xs, ex, q⟩ => ?_)⟩
  subst ex
  cases r1
  have hst : PO X (some (.UnaryOp .USub (.Constant (.int 1) k p1) p2)) (tPart (tUn (rU fun i => .int (-i)) (tC (.int 1)))) := po_some (pe_un un_neg pe_int)
  refine wpAny_Slice (thn (po_none.run pins s1 σ H1 (fun o H2 => o = none ∧ H2 = H1) I1 ⟨rfl, rfl⟩) fun vl s2 ⟨l, H2, I2, pl, el, e2⟩ => ?_)
  subst el e2
  refine thn (po_none.run pins s2 σ H2 (fun o H3 => o = none ∧ H3 = H2) I2 ⟨rfl, rfl⟩) fun vu s3 ⟨u, H3, I3, pu, eu, e3⟩ => ?_
  subst eu e3
  refine thn (hst.run pins s3 σ H3 (fun o H4 => o = some (-1) ∧ H4 = H3) I3 ⟨1, rfl, -1, rfl, rfl, rfl⟩) fun vs s4 ⟨o, H4, I4, ps, eo, e4⟩ => ?_
  subst eo e4
  have I5 : Inv X pins σ H4 { s4 with heap := s4.heap.push { cls := .type "slice", data := .fields #[vl, vu, vs] } } := I4.kept (t' := s4.toks) fun b ob q => Heap.get?_push_of_some _ q
  show wpAny (model X.prog X.w) X.A (subscriptTail e (.Slice none none (some (.UnaryOp .USub (.Constant (.int 1) k p1) p2)) p3) (.ref a) (.ref s4.heap.objs.size)) (EP X pins σ Q) X.xe _
  rcases q with ⟨hx, q⟩ | ⟨hx, q⟩
  · obtain ⟨its, r, ht, hz⟩ := I5.list hx
    have hlen := r.length
    refine tail_any (ops := [.ref a, .ref s4.heap.objs.size]) ht.isList.typeIs (PySem.slot_list_getitem.lookup) ?_ (by with_unfolding_all rfl)
    refine thn (wpAny_getItem_list_slice (Q := fun v s => EP X pins σ (fun v H => ∃ a xs, v = .ref a ∧ H a = some (.lst xs) ∧ ∀ o, Q v (upd H a (.frz o (.lst xs)))) v s) ht.isList (Heap.IsSliceOf.new _ vl vu vs) pl pu ps (by decide) ?_ (by rw [List.size_toArray]; omega)) fun _ _ z => ep_freeze z
    rw [PySem.W.krv_pick]
    exact ⟨.ref _, _, I5.laid (t' := s4.toks) (o := .lst xs.reverse) (fun b ob q => Heap.get?_push_of_some _ q) (Nat.le_refl _) ⟨by rw [List.length_reverse]; exact hz, _, 0, r.reverse, Heap.get?_push_size _ rfl⟩, rfl, _, _, rfl, upd_same, q _ (I5.hok.fresh (Nat.le_refl _))⟩
  · obtain ⟨its, r, ht, hz⟩ := I5.tuple hx
    have hlen := r.length
    refine tail_any (ops := [.ref a, .ref s4.heap.objs.size]) ht.typeIs (PyProof.Rows.slot_tuple_getitem.lookup) ?_ (by with_unfolding_all rfl)
    refine LrE0.item_rev (xs := its.toArray) ht (Heap.IsSliceOf.new _ vl vu vs) pl pu ps ?_ (by rw [List.size_toArray]; omega)
    exact ⟨.ref _, _, laid_t I5 r.reverse (by rw [List.length_reverse]; exact hz), rfl, q _ _ (I5.hok.fresh (Nat.le_refl _)) rfl⟩
theorem HasAll.rev {K : PySem.W.Frag} {H : Hp} : ∀ {vs : List V} {ds : List PyData}, HasAll K H vs ds → HasAll K H vs.reverse ds.reverse
  | _, _, .nil => .nil
  | _, _, .cons h t => by
    rw [List.reverse_cons, List.reverse_cons]
    exact t.rev.append (.cons h .nil)
theorem pe_revD {k : Nat} {p1 p2 p3 : Pos} (ha : PE X a (tR X.K H0 f)) : PE X (.Subscript a (.Slice none none (some (.UnaryOp .USub (.Constant (.int 1) k p1) p2)) p3) pos) (tE X.K H0 fun ρ => (f ρ).bind revEv) := by
  refine pe_mono (pe_revA ha) fun σ H Q ⟨ρ, d, r, he, q⟩ => ?_
  obtain ⟨x, hx, he⟩ := bs he
  refine ⟨ρ, x, r, hx, fun v H1 s1 h1 => ?_⟩
  unfold revEv at he
  split at he <;> first | (cases he; done) | skip
  · cases he
    obtain ⟨a, xs, rfl, ha, ta⟩ := h1.lstE
    refine ⟨a, xs, rfl, .inl ⟨rd_sq ha, fun p hp o => ?_⟩⟩
    have sm : Same H1 (upd (upd H1 p (.lst xs.reverse)) p (.frz o (.lst xs.reverse))) := same_frz (same_upd hp _) hp
    exact q _ _ (s1.trans sm) (.lst ⟨o, upd_same⟩ (ta.rev.ext (same_ext sm)))
  · cases he
    obtain ⟨a, xs, rfl, ha, ta⟩ := h1.tupE
    exact ⟨a, xs, rfl, .inr ⟨ha.sq, tup_end ta.rev fun z H' sm h => q _ _ (s1.trans sm) h⟩⟩
end
end Lr
namespace Lr
open PySem PySem.Spec PyProof.Rows L2
/-! ### methods of tuples, lists and texts, with one argument -/
def tyD (T : String) : PyData → Prop
  | .tuple _ => T = "tuple"
  | .list _ => T = "list"
  | .str _ => T = "str"
  | _ => False
section
variable {X : Cx} {H0 : Hp} {a b e : Expr} {f g : Evl} {pos : Pos}
theorem tyD_is {pins : List (Addr × Obj)} {σ : L2.St} {H : Hp} {s : Shared} {T : String} {x : V} {v : Value} {d : PyData} (I : Inv X pins σ H s) (r : RelV x v) (h : HasR X.K H x d) (t : tyD T d) :
    s.TypeIs v T ∧ ∀ p, v = .ref p → ∃ ob, s.heap.get? p = some ob ∧ ob.dict = none := by
  cases d <;> first | (exact t.elim) | skip
  · obtain rfl := h.strE
    exact tyV_is I r (T := T) (show tyV X.K T (.str _) H from t)
  · obtain ⟨p, xs, rfl, hp, _⟩ := h.lstE
    exact tyV_is I r (show tyV X.K T (.ref p) H from .inl ⟨t, xs, rd_sq hp⟩)
  · obtain ⟨p, xs, rfl, ⟨o, hp, ho⟩, _⟩ := h.tupE
    cases r
    obtain ⟨q1, hz, its, rv, ob, q2, q3, _⟩ := (show ObjOk X.prog X.w H s.heap p (.frz o (.tup xs)) from I.hok p _ hp)
    refine ⟨?_, fun p' e => ?_⟩
    · rw [show T = "tuple" from t]; exact ⟨ob, q2, q3⟩
    · cases e; exact ⟨o, q1, ho⟩
def rM (K : PySem.W.Frag) (gg : List PyData → Option PyData) (dx : PyData) : V → List V → Hp → VK → Prop := fun x xs H Q => ∃ de r, HasR K H x dx ∧ HasRs K H xs [de] ∧ gg [dx, de] = some r ∧ ∀ z H', Same H H' → Has K H' z r → Q z H'
def MethOk (X : Cx) (name : Str) (gg : List PyData → Option PyData) : Prop := ∀ dx de r, gg [dx, de] = some r →
  ∃ T id, PlainAttrs T ∧ PySem.Slot T name id ∧ typeOf (.builtin id) = pure (.type "method_descriptor") ∧ tyD T dx ∧ MtR X id (rM X.K gg dx)
theorem pe_methD {apos : Pos} {name : Str} {gg : List PyData → Option PyData} (hm : MethOk X name gg) (ha : PE X a (tR X.K H0 f)) (hb : PE X b (tR X.K H0 g)) (h1 : plainArg b = true) (h2 : abOk a = true) (h3 : (apos.endLine == pos.line) = true) :
    PE X (.Call (.Attribute a name apos) [b] [] pos) (tE X.K H0 fun ρ => (f ρ).bind fun x => (g ρ).bind fun y => gg [x, y]) := by
  refine ⟨fun pins s σ H Q I ⟨ρ, d, r, he, q⟩ => ?_⟩
  obtain ⟨x, hx, he⟩ := bs he
  obtain ⟨y, hy, he⟩ := bs he
  obtain ⟨T, id, pa, sl, ty, td, mt⟩ := hm x y d he
  have st : starEach [b] X.env = [(false, eval b X.env)] := star_cons h1
  refine wpAny_Call_method_late (ab_ok h2) (by rw [st]; rfl) h3 rfl (thn (ha.run pins s σ H (fun v H1 => Same H H1 ∧ HasR X.K H1 v x) I ⟨ρ, x, r, hx, fun v H1 s1 z => ⟨s1, z⟩⟩) fun v s1 ⟨xv, H1, I1, r1, sm, hv⟩ => ?_)
  obtain ⟨t1, t2⟩ := tyD_is I1 r1 hv td
  refine ⟨T, id, pa, sl, ty, t1, t2, ?_⟩
  have hA := (pa_cons hb pa_nil st).run pos pins s1 σ H1 (fun vs H2 => Same H1 H2 ∧ HasRs X.K H2 vs [y]) I1 ⟨ρ, y, r.mono sm, hy, fun w H2 s2 z => ⟨s2, .cons z .nil⟩⟩
  rw [st] at hA ⊢
  exact Calls.callWith_builtin rfl (Calls.evalArgs_plain (thn hA fun us s2 ⟨vs, H2, I2, r2, s2', q2⟩ => mt pins s2 σ H2 xv vs v us Q I2 r1 r2 ⟨y, d, hv.same s2', q2, he, fun z H' s3 z3 => q z H' ((sm.trans s2').trans s3) z3⟩))
theorem idx_first {ys : List Str} {z : Str} (h : z ∈ ys) : ys[ys.idxOf z]? = some z ∧ ∀ m, m < ys.idxOf z → ys[m]? ≠ some z := by
  induction ys with
  | nil => cases h
  | cons y ys ih =>
    rw [List.idxOf_cons]
    by_cases e : y = z
    · subst e
      simp
    · have e' : (y == z) = false := by simpa using e
      rw [e']
      have hz : z ∈ ys := by
        rcases List.mem_cons.mp h with q | q
        · exact absurd q.symm e
        · exact q
      obtain ⟨h1, h2⟩ := ih hz
      refine ⟨by simpa using h1, fun m hm => ?_⟩
      cases m with
      | zero => simpa using e
      | succ m => simpa using h2 m (by simpa using hm)
theorem meth_index : MethOk X "index" indexEv := by
  intro dx de r he
  have he0 := he
  unfold indexEv at he
  split at he <;> first | (cases he; done) | skip
  · rename_i ds z el
    cases el
    refine ⟨"tuple", "tuple.index", F.plainAttrs_tuple, F.slot_tuple_index, F.type_tuple_index, rfl, fun pins s σ H x xs v us Q I rx rs ⟨de', r', hx, hs, he', q⟩ => ?_⟩
    unfold indexEv at he'
    split at he' <;> first | (cases he'; done) | skip
    rename_i ds z el
    cases el
    obtain ⟨ys, hz, he'⟩ := bs he'
    split at he' <;> first | (cases he'; done) | skip
    rename_i hok
    cases he'
    obtain ⟨i1, i2⟩ := idx_first hok
    obtain ⟨w, rfl, hw⟩ := hs.oneE
    obtain rfl := hw.strE
    obtain ⟨p, vs, rfl, rp, tp⟩ := hx.tupE
    obtain rfl := strs_has hz tp
    exact mt_tup_index pins s σ H _ _ v us Q I rx rs ⟨p, ys, z, _, rfl, rfl, rp.sq, i1, i2, q _ _ (Same.refl _) (.int _)⟩
    rename_i e1; cases e1
  · rename_i ds z el
    cases el
    refine ⟨"list", "list.index", F.plainAttrs_list, F.slot_list_index, F.type_list_index, rfl, fun pins s σ H x xs v us Q I rx rs ⟨de', r', hx, hs, he', q⟩ => ?_⟩
    unfold indexEv at he'
    split at he' <;> first | (cases he'; done) | skip
    · rename_i e1; cases e1
    rename_i ds z el
    cases el
    obtain ⟨ys, hz, he'⟩ := bs he'
    split at he' <;> first | (cases he'; done) | skip
    rename_i hok
    cases he'
    obtain ⟨i1, i2⟩ := idx_first hok
    obtain ⟨w, rfl, hw⟩ := hs.oneE
    obtain rfl := hw.strE
    obtain ⟨p, vs, rfl, rp, tp⟩ := hx.lstE
    obtain rfl := strs_has hz tp
    refine mt_index pins s σ H _ _ v us Q I rx rs ⟨p, ys.map V.str, .str z, ys.idxOf z, .str z, rfl, rfl, rd_sq rp, rfl, by simp [flatV], by rw [List.getElem?_map, i1]; rfl, by simp [eqV], fun m z' hm hz' => ?_, q _ _ (Same.refl _) (.int _)⟩
    rw [List.getElem?_map] at hz'
    obtain ⟨y, hy, rfl⟩ := Option.map_eq_some_iff.mp hz'
    have := i2 m hm
    rw [hy] at this
    have ne : y ≠ z := fun e => this (by rw [e])
    simp [eqV, ne]
theorem meth_split : MethOk X "split" splitEv := by
  intro dx de r he
  unfold splitEv at he
  split at he <;> first | (cases he; done) | skip
  rename_i a0 b0 el
  cases el
  refine ⟨"str", "str.split", F.plainAttrs_str, F.slot_str_split, F.type_str_split, rfl, fun pins s σ H x xs v us Q I rx rs ⟨de', r', hx, hs, he', q⟩ => ?_⟩
  unfold splitEv at he'
  split at he' <;> first | (cases he'; done) | skip
  rename_i a1 b1 el1
  simp only [List.cons.injEq, PyData.str.injEq, and_true] at el1
  obtain ⟨rfl, rfl⟩ := el1
  split at he' <;> first | (cases he'; done) | skip
  rename_i hok
  cases he'
  simp only [Bool.and_eq_true, decide_eq_true_eq] at hok
  obtain ⟨w, rfl, hw⟩ := hs.oneE
  obtain rfl := hw.strE
  obtain rfl := hx.strE
  refine thn (mt_split pins s σ H _ _ v us _ I rx rs ⟨_, _, rfl, rfl, by simp; omega, szOk_le hok.2, fun p hp => ?_⟩) fun _ _ z => ep_freeze z
  exact frz_end (pins := pins) (σ := σ) hp (HasAll.strs _) q
end
end Lr
namespace Lr
open PySem PySem.Spec PyProof.Rows L2
/-! ### sorted, min, max by data -/
theorem alikeB_ok {ds : List PyData} (h : allAlikeB ds = true) : PySem.W.AllAlike ds := by
  intro d hd e he
  exact List.all_eq_true.mp (List.all_eq_true.mp h d hd) e he
theorem depth_mem : ∀ {ds : List PyData} {d : PyData}, d ∈ ds → d.depth ≤ PyData.depthAll ds
  | [], d, h => by cases h
  | e :: r, d, h => by
    unfold PyData.depthAll
    rcases List.mem_cons.mp h with rfl | h
    · exact Nat.le_max_left _ _
    · exact Nat.le_trans (depth_mem h) (Nat.le_max_right _ _)
theorem sortOk_ok {ds : List PyData} (h : sortOk ds = true) : PySem.W.AllAlike ds ∧ PySem.W.Sortable ds ∧ (∀ d ∈ ds, d.depth ≤ 64) ∧ ds.length ≤ sizeLine := by
  simp only [sortOk, Bool.and_eq_true, Bool.or_eq_true, decide_eq_true_eq] at h
  obtain ⟨h1, h2, h3, h4⟩ := h
  refine ⟨alikeB_ok h1, ?_, fun d hd => Nat.le_trans (depth_mem hd) h3, szOk_le h4⟩
  rcases h2 with h2 | h2
  · refine .inl fun d hd => ?_
    have := List.all_eq_true.mp h2 d hd
    unfold tupHead at this
    split at this
    · exact ⟨_, _, rfl⟩
    · cases this
  · refine .inr fun d hd => ?_
    have := List.all_eq_true.mp h2 d hd
    unfold plainKey at this
    split at this
    · cases this
    · cases this
    · rename_i h1 h2; exact ⟨h1, h2⟩
section
variable {X : Cx} {pins : List (Addr × Obj)} {σ : L2.St} {H : Hp} {s : Shared}
theorem each_has {K : PySem.W.Frag} : ∀ {xs : List V} {us : List Value} {ds : List PyData}, Vals xs us → HasAll K H xs ds → PySem.W.EachIs (fun u d => ∃ x, RelV x u ∧ Has K H x d) us ds
  | _, _, _, .nil, .nil => .nil
  | _, _, _, .cons r rr, .cons h t => .cons ⟨_, r, h⟩ (each_has rr t)
theorem has_each {K : PySem.W.Frag} : ∀ {us : List Value} {ds : List PyData}, PySem.W.EachIs (fun u d => ∃ x, RelV x u ∧ Has K H x d) us ds → ∃ xs, Vals xs us ∧ HasAll K H xs ds
  | _, _, .nil => ⟨[], .nil, .nil⟩
  | _, _, .cons ⟨x, r, h⟩ t => let ⟨xs, r2, h2⟩ := has_each t; ⟨x :: xs, .cons r r2, .cons h h2⟩
theorem each_reads (I : Inv X pins σ H s) {h' : Heap} (kp : ∀ b o, s.heap.get? b = some o → h'.get? b = some o) : ∀ {xs : List V} {us : List Value} {ds : List PyData}, Vals xs us → HasAll X.K H xs ds → PySem.W.EachIs (fun u d => ∃ as, Reads h' u d as) us ds
  | _, _, _, .nil, .nil => .nil
  | _, _, _, .cons r rr, .cons h t => .cons (let ⟨as, q⟩ := Dp.reads I _ _ _ h.dp r; ⟨as, PyProof.Rows.Reads.keeps kp q⟩) (each_reads I kp rr t)
end
section
variable {prog : Program} {w : World} {A : Around} {E : Value → Shared → Prop} {s : Shared}
/-- sorted(v), where what v collects is known -/
theorem sorted_by {v : Value} {vs : List Value} {Out : List Value → Prop} {Q : Value → Shared → Prop} (hL : vs.length ≤ sizeLine)
    (col : ∀ (E' : Value → Shared → Prop) (Q' : List Value → Shared → Prop), (∀ h1 : Heap, (∀ b o, s.heap.get? b = some o → h1.get? b = some o) → Q' vs { s with heap := h1 }) → wpAny (model prog w) A.in1 (collect v) Q' E' s)
    (S : ∀ h1 : Heap, (∀ b o, s.heap.get? b = some o → h1.get? b = some o) → ∃ κ, PySem.W.SortsAt prog w A.in1.in1 { s with heap := h1 } κ vs ∧ Out (PySem.W.sortVals κ false vs vs))
    (h : ∀ (h0 h1 : Heap) (out : List Value) (c : Nat), (∀ b o, s.heap.get? b = some o → h0.get? b = some o) → (∀ b o, h0.get? b = some o → h1.get? b = some o) → Out out → h1.get? h0.objs.size = some (seqObj "list" out.toArray c) → Q (.ref h0.objs.size) { s with heap := h1 }) :
    wpAny (model prog w) A (call (.builtin "sorted") [v]) Q E s := by
  refine call_function_entry_kw kind_sorted plain_sorted entry_sorted (args_sorted1 v) ?_
  unfold Builtin.«sorted»
  refine wpAny_bind (m := checkCount "sorted" 1 1 _) (wpAny_pure (wpAny_bind (col _ _ fun h1 k1 => wpAny_bind (wpAny_newList ?_ hL))))
  have at1 : (h1.push (seqObj "list" vs.toArray 0)).get? h1.objs.size = some (seqObj "list" vs.toArray 0) := Heap.get?_push_size _ rfl
  have old : ∀ b o, h1.get? b = some o → (h1.push (seqObj "list" vs.toArray 0)).get? b = some o := fun b o q => Heap.get?_push_of_some _ q
  obtain ⟨κ, S1, O1⟩ := S _ fun b o q => PySem.W.sortingHeap_old (vs := vs) (Nat.ne_of_lt (Heap.lt_size (k1 b o q))) (old b o (k1 b o q))
  refine wpAny_bind (wpAny_holding (wpAny_call_entry_kw slot_list_sort ⟨_, at1, rfl⟩ entry_list_sort ?_ (PyProof.Rows.args_list_sort _)))
  show wpAny (model prog w) A.in1.in1 (Builtin.«list.sort» ⟨[.ref h1.objs.size], []⟩) _ _ { s with heap := h1.push (seqObj "list" vs.toArray 0) }
  refine PySem.W.list_sort_vals (s := { s with heap := h1.push (seqObj "list" vs.toArray 0) }) at1 S1 hL ?_
  refine ⟨_, rfl, wpAny_pure ⟨_, rfl, ?_⟩⟩
  obtain ⟨c, hc⟩ := sortedHeap_at (out := (PySem.W.sortVals κ false vs vs).toArray) at1
  refine h h1 _ _ c k1 (fun b o q => ?_) O1 hc
  have hb : b < h1.objs.size := Heap.lt_size q
  rw [sortedHeap_old (Nat.ne_of_lt hb) (Nat.lt_of_lt_of_le hb (by rw [Heap.size_push]; exact Nat.le_succ _))]
  exact old b o q
end
section
variable {X : Cx}
theorem cr_sortedD (hu : X.A.units + 70 < cLine) : CallR X (.builtin "sorted") (rG X.K sortedEv) := by
  intro pins s σ H vs us Q I rv ⟨ds, r, h, he, q⟩
  have key : ∀ (a : Addr) (xs : List V) (its : List Value) (es : List PyData) (o : Obj) (n : Nat) (T : String), (T = "list" ∨ T = "tuple") → s.heap.get? a = some o → o.cls = .type T → o.data = .seq its.toArray n → us = [.ref a] → Vals xs its → HasAll X.K H xs es → sortOk es = true → r = .list (sortD es) →
      wpAny (model X.prog X.w) X.A (call (.builtin "sorted") us) (EP X pins σ Q) X.xe s := by
    intro a xs its es o n T hT ho hc hd eu rx tx ok er
    subst eu er
    obtain ⟨k1, k2, k3, k4⟩ := sortOk_ok ok
    have l1 := tx.length
    have l2 := rx.length
    have em : es.map id = es := List.map_id _
    refine thn (sorted_by (vs := its) (Out := fun out => PySem.W.EachIs (fun u d => ∃ x, RelV x u ∧ Has X.K H x d) out (sortD es)) (Q := EP X pins σ fun v H' => ∃ a xs, v = .ref a ∧ H' a = some (.lst xs) ∧ ∀ o, Q v (upd H' a (.frz o (.lst xs)))) (by omega) (fun E' Q' hq => wpAny_collect_seq a hT ho hc hd (fun h' kp => by simpa using hq h' kp) (by simp only [List.size_toArray]; omega)) (fun h1 kp => ?_) fun h0 h1 out c kp kp2 O e => ?_) fun _ _ z => ep_freeze z
    · have er := each_reads I kp rx tx
      refine ⟨_, PySem.W.SortsAt.data (prog := X.prog) (w := X.w) (A := X.A.in1.in1) (s := { s with heap := h1 }) er k1 k2 (fun d hd => by have := k3 d hd; show X.A.units + 1 + 1 + d.depth < cLine; omega), ?_⟩
      have := PySem.W.sortVals_data (h' := h1) (enc := id) false (each_has rx tx) er (by rw [em]; exact k1)
      rw [em] at this
      exact this
    · have I0 : Inv X pins σ H { s with heap := h0 } := I.kept (t' := s.toks) kp
      obtain ⟨ys, ry, ty⟩ := has_each O
      have ly := ty.length
      have hz : ys.length ≤ sizeLine := by rw [ly]; unfold sortD; rw [List.length_mergeSort]; exact k4
      refine ⟨.ref h0.objs.size, _, I0.laid (t' := s.toks) (o := .lst ys) kp2 (Nat.le_refl _) ⟨hz, out, c, ry, e⟩, rfl, ?_⟩
      exact frz_end (pins := pins) (σ := σ) (I0.hok.fresh (Nat.le_refl _)) ty q
  unfold sortedEv at he
  split at he <;> first | (cases he; done) | skip
  · split at he <;> first | (cases he; done) | skip
    rename_i ok
    cases he
    obtain ⟨v, rfl, h1⟩ := h.oneE
    obtain ⟨a, ys, rfl, ra, ta⟩ := h1.lstE
    obtain ⟨u, rfl, ru⟩ := vals1 rv
    cases ru
    obtain ⟨_, its, n, r1, _, g1⟩ := rd_obj I ra
    exact key a ys its _ _ n "list" (.inl rfl) g1 rfl rfl rfl r1 ta ok rfl
  · split at he <;> first | (cases he; done) | skip
    rename_i ok
    cases he
    obtain ⟨v, rfl, h1⟩ := h.oneE
    obtain ⟨a, ys, rfl, ra, ta⟩ := h1.tupE
    obtain ⟨u, rfl, ru⟩ := vals1 rv
    cases ru
    obtain ⟨its, r1, ⟨o, ho, hc, n, hd⟩, _⟩ := I.tuple ra.sq
    exact key a ys its _ o n "tuple" (.inr rfl) ho hc hd rfl r1 ta ok rfl
theorem mm_ok {ds : List PyData} (h : mmOk ds = true) : PySem.W.AlikeAll ds ∧ PyData.depthAll ds ≤ 64 := by
  simp only [mmOk, Bool.and_eq_true, Bool.not_eq_true', decide_eq_true_eq] at h
  refine ⟨⟨alikeB_ok h.1, fun x hx e => ?_⟩, h.2.2⟩
  subst e
  have := List.any_eq_false.mp h.2.1 _ hx
  exact this rfl
theorem alike_mem {K : PySem.W.Frag} {H : Hp} {pins : List (Addr × Obj)} {σ : L2.St} {s : Shared} {xs : List V} {its : List Value} {ds : List PyData} {h' : Heap} {i : Nat} {v : Value} {m : PyData} {bs : List Addr} (I : Inv X pins σ H s) (kp : ∀ b o, s.heap.get? b = some o → h'.get? b = some o) (rx : Vals xs its) (tx : HasAll X.K H xs ds) (al : PySem.W.AlikeAll ds) (hm : m ∈ ds) (hv : its[i]? = some v) (r : Reads h' v m bs) :
    ∃ x, RelV x v ∧ Has X.K H x m := by
  have hi : i < its.length := (List.getElem?_eq_some_iff.mp hv).1
  have hi2 : i < xs.length := by rw [rx.length]; exact hi
  obtain ⟨d, hd, hx⟩ := tx.get' (show xs[i]? = some xs[i] by simp [hi2])
  obtain ⟨u, hu, ru⟩ := rx.get (show xs[i]? = some xs[i] by simp [hi2])
  rw [hv] at hu
  cases hu
  obtain ⟨as, q⟩ := Dp.reads I _ _ _ hx.dp ru
  have e := PySem.W.alike_unique d m v as bs (al.1 d (List.mem_of_getElem? hd) m hm) (PyProof.Rows.Reads.keeps kp q) r
  subst e
  exact ⟨_, ru, hx⟩
theorem minD_mem : ∀ (ds : List PyData) (d : PyData), PySem.W.minD d ds ∈ d :: ds
  | [], d => by simp [PySem.W.minD]
  | e :: r, d => by
    have : PySem.W.minD d (e :: r) = PySem.W.minD (if PySem.W.dataLt e d then e else d) r := rfl
    rw [this]
    have h := minD_mem r (if PySem.W.dataLt e d then e else d)
    rcases List.mem_cons.mp h with h | h
    · rw [h]; split <;> simp
    · simp [h]
theorem maxD_mem : ∀ (ds : List PyData) (d : PyData), PySem.W.maxD d ds ∈ d :: ds
  | [], d => by simp [PySem.W.maxD]
  | e :: r, d => by
    have : PySem.W.maxD d (e :: r) = PySem.W.maxD (if PySem.W.dataLt d e then e else d) r := rfl
    rw [this]
    have h := maxD_mem r (if PySem.W.dataLt d e then e else d)
    rcases List.mem_cons.mp h with h | h
    · rw [h]; split <;> simp
    · simp [h]
theorem mm_run {d : PyData} {ds : List PyData} {xs : List V} {its : List Value} {pins : List (Addr × Obj)} {σ : L2.St} {H : Hp} {s : Shared} {Q : VK} {m : PyData} {v : Value} {i : Nat} {h' : Heap} {tk : Nat} {bs : List Addr} (I : Inv X pins σ H s) (rx : Vals xs its) (tx : HasAll X.K H xs (d :: ds)) (al : PySem.W.AlikeAll (d :: ds)) (hm : m ∈ d :: ds) (hv : its.toArray[i]? = some v) (r : Reads h' v m bs) (kp : ∀ b o, s.heap.get? b = some o → h'.get? b = some o)
    (q : ∀ z H', Same H H' → Has X.K H' z m → Q z H') : EP X pins σ Q v { s with heap := h', toks := tk } := by
  obtain ⟨x, rv, hx⟩ := alike_mem (K := X.K) I kp rx tx al hm (by simpa using hv) r
  exact ⟨x, H, I.kept (t' := tk) kp, rv, q _ _ (Same.refl _) hx⟩
theorem cr_min1 (hh : X.A.handled = none) (hu : X.A.units + 70 < cLine) : CallR X (.builtin "min") (rG X.K min1Ev) := by
  intro pins s σ H vs us Q I rv ⟨ds, r, h, he, q⟩
  unfold min1Ev at he
  split at he <;> first | (cases he; done) | skip
  all_goals
    unfold minTail at he
    split at he <;> first | (cases he; done) | skip
    split at he <;> first | (cases he; done) | skip
    rename_i ok
    cases he
    obtain ⟨al, dp⟩ := mm_ok ok
    obtain ⟨v, rfl, h1⟩ := h.oneE
  · obtain ⟨a, ys, rfl, ra, ta⟩ := h1.lstE
    obtain ⟨u, rfl, ru⟩ := vals1 rv
    cases ru
    obtain ⟨_, its, n, r1, _, g1⟩ := rd_obj I ra
    obtain ⟨as, rs⟩ := Dp.readsAll I _ _ _ ta.dp r1
    exact PySem.W.min_list_data hh ⟨_, g1, rfl, n, rfl⟩ (by simpa using rs) al (by omega) fun i w h' tk bs hi hr kp => mm_run I r1 ta al (minD_mem _ _) hi hr kp q
  · obtain ⟨a, ys, rfl, ra, ta⟩ := h1.tupE
    obtain ⟨u, rfl, ru⟩ := vals1 rv
    cases ru
    obtain ⟨its, r1, pl, _⟩ := I.tuple ra.sq
    obtain ⟨as, rs⟩ := Dp.readsAll I _ _ _ ta.dp r1
    exact PySem.W.min_tuple_data hh (show s.heap.IsTuple a its.toArray from pl) (by simpa using rs) al (by omega) fun i w h' tk bs hi hr kp => mm_run I r1 ta al (minD_mem _ _) hi hr kp q
theorem cr_max1 (hh : X.A.handled = none) (hu : X.A.units + 70 < cLine) : CallR X (.builtin "max") (rG X.K max1Ev) := by
  intro pins s σ H vs us Q I rv ⟨ds, r, h, he, q⟩
  unfold max1Ev at he
  split at he <;> first | (cases he; done) | skip
  all_goals
    unfold maxTail at he
    split at he <;> first | (cases he; done) | skip
    split at he <;> first | (cases he; done) | skip
    rename_i ok
    cases he
    obtain ⟨al, dp⟩ := mm_ok ok
    obtain ⟨v, rfl, h1⟩ := h.oneE
  · obtain ⟨a, ys, rfl, ra, ta⟩ := h1.lstE
    obtain ⟨u, rfl, ru⟩ := vals1 rv
    cases ru
    obtain ⟨_, its, n, r1, _, g1⟩ := rd_obj I ra
    obtain ⟨as, rs⟩ := Dp.readsAll I _ _ _ ta.dp r1
    exact PySem.W.max_list_data hh ⟨_, g1, rfl, n, rfl⟩ (by simpa using rs) al (by omega) fun i w h' tk bs hi hr kp => mm_run I r1 ta al (maxD_mem _ _) hi hr kp q
  · obtain ⟨a, ys, rfl, ra, ta⟩ := h1.tupE
    obtain ⟨u, rfl, ru⟩ := vals1 rv
    cases ru
    obtain ⟨its, r1, pl, _⟩ := I.tuple ra.sq
    obtain ⟨as, rs⟩ := Dp.readsAll I _ _ _ ta.dp r1
    exact PySem.W.max_tuple_data hh (show s.heap.IsTuple a its.toArray from pl) (by simpa using rs) al (by omega) fun i w h' tk bs hi hr kp => mm_run I r1 ta al (maxD_mem _ _) hi hr kp q
end
end Lr
namespace Lr
open PySem PySem.Spec PyProof.Rows L2
/-! ### zip of two tuples, the pairs' objects known -/
def ItZ (K : PySem.W.Frag) (a b : Addr) : It where
  go := fun i H => ∃ (xs ys : List V) (x y : V), SqT K H a xs ∧ SqT K H b ys ∧ xs[i]? = some x ∧ ys[i]? = some y
  yld := fun i H v H' => ∃ T x y o, v = .ref T ∧ H T = none ∧ o.dict = none ∧ H' = upd H T (.frz o (.tup [x, y])) ∧ (∀ xs, SqT K H a xs → xs[i]? = some x) ∧ ∀ ys, SqT K H b ys → ys[i]? = some y
  stop := fun i H => ∃ xs ys : List V, SqT K H a xs ∧ SqT K H b ys ∧ (xs.length ≤ i ∨ ys.length ≤ i)
theorem five {c z t1 t2 k1 k2 : Addr} (h : c ∈ [z, t1, t2, k1, k2]) : c = z ∨ c = t1 ∨ c = t2 ∨ c = k1 ∨ c = k2 := by simpa using h
theorem turn_zF {P : Program} {w : World} {K : PySem.W.Frag} {elts : List Expr} {kk : Nat} {tpos : Pos} {a b z t1 t2 k1 k2 : Addr} (D : ZipApart z t1 t2 k1 k2 a b) :
    Turn P w K (.Tuple elts kk tpos) (ItZ K a b) [z, t1, t2, k1, k2] z (fun i h => IsZip h z t1 t2 .none ∧ (IsPair h t1 (.ref k1) (.ref k2) ∧ ((∃ x y, IsPair h t2 x y) ∧ (h.IsTupleIter k1 a i ∧ h.IsTupleIter k2 b i)))) where
  mem := by simp
  obj := fun i h st c hc => by
    obtain ⟨zz, pp, ⟨x, y, rr⟩, ⟨ob1, g1, _, e1⟩, ⟨ob2, g2, _, e2⟩⟩ := st
    rcases five hc with q | q | q | q | q <;> subst q
    · exact ⟨_, zz, fun v q => nomatch q⟩
    · exact ⟨_, pp, fun v q => nomatch q⟩
    · exact ⟨_, rr, fun v q => nomatch q⟩
    · exact ⟨ob1, g1, fun v q => by rw [e1] at q; cases q⟩
    · exact ⟨ob2, g2, fun v q => by rw [e2] at q; cases q⟩
  keep := fun i h h' st kp => by
    obtain ⟨zz, pp, ⟨x, y, rr⟩, it1, it2⟩ := st
    exact ⟨kp z (by simp) _ zz, kp t1 (by simp) _ pp, ⟨x, y, kp t2 (by simp) _ rr⟩, it1.at fun o q => kp k1 (by simp) o q, it2.at fun o q => kp k2 (by simp) o q⟩
  item := by
    intro Y eP ew eK hc i pins s σ H E I fp st hg
    subst eP ew eK
    obtain ⟨zz, pp, ⟨x0, y0, rr⟩, it1, it2⟩ := st
    obtain ⟨ws, ws', wv, wv', hw, hw', gi, gi'⟩ := hg
    obtain ⟨us, rel, pl, _⟩ := I.tuple hw
    obtain ⟨us', rel', pl', _⟩ := I.tuple hw'
    obtain ⟨u, hu, ru⟩ := rel.get gi
    obtain ⟨u', hu', ru'⟩ := rel'.get gi'
    have zlt : z < s.heap.objs.size := Heap.lt_size zz
    refine RZ.pyNext_zipT_item D zz pp rr it1 it2 pl pl' (x := u) (y := u') (by simpa using hu) (by simpa using hu') fun g1 zz1 rr1 it1' it2' gT _ kp => ?_
    refine ⟨_, rfl, wpAny_letOwnedTupleGo_zip (s := { s with heap := g1 }) zz1 fun g2 zz2 sb => ?_⟩
    have gT2 : g2.get? s.heap.objs.size = some (tO [u, u']) := (sb.2 _ (Nat.ne_of_gt zlt)).trans gT
    have fin : ObjOk Y.prog Y.w (upd H s.heap.objs.size (.frz (tO [u, u']) (.tup [wv, wv']))) g2 s.heap.objs.size (.frz (tO [u, u']) (.tup [wv, wv'])) := ⟨gT2, by show 2 ≤ sizeLine; decide, [u, u'], .cons ru (.cons ru' .nil), ⟨_, gT2, rfl, _, rfl⟩⟩
    have J : Inv Y pins σ (upd H s.heap.objs.size (.frz (tO [u, u']) (.tup [wv, wv']))) { s with heap := g2 } := by
      refine I.turnedNew (t' := s.toks) (ch := [z, t1, t2, k1, k2]) (fun c ob nc q => (sb.2 c fun e => nc (by simp [e])).trans ?_) fp (Nat.le_refl _) fin
      exact kp c ob (fun e => nc (by simp [e])) (fun e => nc (by simp [e])) (fun e => nc (by simp [e])) (fun e => nc (by simp [e])) q
    refine ⟨.ref s.heap.objs.size, _, J, rfl, ⟨_, wv, wv', _, rfl, I.hok.fresh (Nat.le_refl _), rfl, rfl, fun l hl => by rw [I.tuple_inj hl hw]; exact gi, fun l hl => by rw [I.tuple_inj hl hw']; exact gi'⟩, ⟨zz2, ?_, ⟨u, u', ?_⟩, ?_, ?_⟩, fun c nc => ?_⟩
    · exact (sb.2 _ D.TIz).trans (kp _ _ D.TIz D.TITO D.TIi1 D.TIi2 pp)
    · exact (sb.2 _ D.TOz).trans rr1
    · exact it1'.at fun o q => (sb.2 _ D.i1z).trans q
    · exact it2'.at fun o q => (sb.2 _ D.i2z).trans q
    · have lt : c < s.heap.objs.size := by
        rcases five nc with q | q | q | q | q <;> subst q
        · exact zlt
        · exact Heap.lt_size pp
        · exact Heap.lt_size rr
        · obtain ⟨_, q, _⟩ := it1; exact Heap.lt_size q
        · obtain ⟨_, q, _⟩ := it2; exact Heap.lt_size q
      rw [upd_ne (Nat.ne_of_lt lt)]
      exact (fp c nc).1
  done := by
    intro Y eP ew eK hc i pins s σ H E I fp st hg
    subst eP ew eK
    obtain ⟨zz, pp, ⟨x0, y0, rr⟩, it1, it2⟩ := st
    obtain ⟨ws, ws', hw, hw', over⟩ := hg
    obtain ⟨us, rel, pl, _⟩ := I.tuple hw
    obtain ⟨us', rel', pl', _⟩ := I.tuple hw'
    have n1 := rel.length
    have n2 := rel'.length
    have he : us.toArray[i]? = none ∨ us'.toArray[i]? = none := over.elim (fun q => .inl (by simp; omega)) fun q => .inr (by simp; omega)
    refine RZ.pyNext_zipT_end (I.ok.hd hc) D zz pp rr it1 it2 pl pl' he fun g1 kp => ⟨rfl, I.turnedL (t' := s.toks) (ch := [z, t1, t2, k1, k2]) (fun c ob nc q => ?_) fp⟩
    exact kp c ob (fun e => nc (by simp [e])) (fun e => nc (by simp [e])) (fun e => nc (by simp [e])) (fun e => nc (by simp [e])) q
  self := fun A i s Q E st q => wpAny_pyIter_zip st.1 q
def iZF (K : PySem.W.Frag) (ta : TA) : TI := fun σ H R => ta σ H fun vs H1 => ∃ a b xs ys, vs = [.ref a, .ref b] ∧ SqT K H1 a xs ∧ SqT K H1 b ys ∧ R (ItZ K a b) H1
theorem pi_zF {X : Cx} {e e2 : Expr} {ta : TA} {p pos tpos : Pos} {elts : List Expr} {kk : Nat} (hg : Gl X "zip") (hm : X.mg "zip" = none) (ha : PA X [e, e2] ta) (hs : starEach [e, e2] X.env = (false, eval e X.env) :: starEach [e2] X.env) (hp : (backTo pos (starEach [e2] X.env)).any (·.1) = false) :
    PI X (.Tuple elts kk tpos) (.Call (.Name "zip" p) [e, e2] [] pos) (iZF X.K ta) := by
  refine ⟨fun pins s σ H R I h => Call_ (ld_blt I hg hm PyProof.Rows.boot_zip (PyProof.Rows.callWith_type1 (thn (ha.run pos pins s σ H _ I h) fun us s1 ⟨vs, H1, J, r1, a, b, xs, ys, ex, hx, hy, q⟩ => ?_) hs hp))⟩
  subst ex
  obtain ⟨u1, u2, rfl, ra, rb⟩ : ∃ u1 u2, us = [u1, u2] ∧ RelV (.ref a) u1 ∧ RelV (.ref b) u2 := by
    cases r1 with
    | cons r rr => cases rr with
      | cons r' rr => cases rr; exact ⟨_, _, rfl, r, r'⟩
  cases ra
  cases rb
  have fp : ∀ c, c ∈ [s1.heap.objs.size + 4, s1.heap.objs.size + 2, s1.heap.objs.size + 3, s1.heap.objs.size, s1.heap.objs.size + 1] → FpOk X pins H1 c := fun c nc => by
    have le : s1.heap.objs.size ≤ c := by rcases five nc with q | q | q | q | q <;> (rw [q]; first | exact Nat.le_refl _ | exact Nat.le_add_right _ _)
    exact J.fpOk le (J.hok.fresh le)
  obtain ⟨us, rel, pl, _⟩ := J.tuple hx
  obtain ⟨us', rel', pl', _⟩ := J.tuple hy
  obtain ⟨o1, g1, _⟩ := id pl
  obtain ⟨o2, g2, _⟩ := id pl'
  refine RZ.call_zipT (show s1.heap.IsTuple a us.toArray from pl) (show s1.heap.IsTuple b us'.toArray from pl') fun k zz pp rr it1 it2 _ kp => wpAny_pyIter_zip zz ?_
  have J2 : Inv X pins σ H1 { s1 with heap := k } := J.kept (t' := s1.toks) kp
  exact ⟨_, _, _, _, H1, rfl, J2, turn_zF (PySem.W.ktu_apart s1.heap.objs.size a b (Heap.lt_size g1) (Heap.lt_size g2)), ⟨zz, pp, ⟨_, _, rr⟩, it1, it2⟩, fp, q⟩
theorem zip_get : ∀ {xs ys : List PyData} {i : Nat} {d : PyData}, (zipD xs ys)[i]? = some d → ∃ x y, xs[i]? = some x ∧ ys[i]? = some y ∧ d = .tuple [x, y]
  | [], ys, i, d, h => by simp [zipD] at h
  | x :: xs, [], i, d, h => by simp [zipD] at h
  | x :: xs, y :: ys, 0, d, h => by simp [zipD] at h; exact ⟨x, y, rfl, rfl, h.symm⟩
  | x :: xs, y :: ys, i + 1, d, h => by
    have : (zipD xs ys)[i]? = some d := by simpa [zipD] using h
    obtain ⟨a, b, h1, h2, h3⟩ := zip_get this
    exact ⟨a, b, by simpa using h1, by simpa using h2, h3⟩
theorem zip_len (xs ys : List PyData) : (zipD xs ys).length = min xs.length ys.length := by simp [zipD]
theorem walk_zF {K : PySem.W.Frag} {a b : Addr} {xs ys : List V} {ds es : List PyData} : WalkD K (ItZ K a b) (zipD ds es) fun H => (Tp H a xs ∧ HasAll K H xs ds) ∧ (Tp H b ys ∧ HasAll K H ys es) where
  go := fun i H hi ⟨⟨h1, h2⟩, h3, h4⟩ => by
    rw [zip_len, ← h2.length, ← h4.length] at hi
    have l1 : i < xs.length := by omega
    have l2 : i < ys.length := by omega
    exact ⟨xs, ys, xs[i], ys[i], h1.sq, h3.sq, by simp [l1], by simp [l2]⟩
  stop := fun H ⟨⟨h1, h2⟩, h3, h4⟩ => ⟨xs, ys, h1.sq, h3.sq, by rw [zip_len, ← h2.length, ← h4.length]; omega⟩
  yld := fun i H v H' d ⟨⟨h1, h2⟩, h3, h4⟩ ⟨T, x, y, o, e1, e2, eo, e3, e4, e5⟩ hd => by
    obtain ⟨p, q, g1, g2, rfl⟩ := zip_get hd
    obtain ⟨v1, k1, m1⟩ := h2.get g1
    obtain ⟨v2, k2, m2⟩ := h4.get g2
    have q1 := e4 xs h1.sq
    have q2 := e5 ys h3.sq
    rw [k1] at q1
    rw [k2] at q2
    cases q1
    cases q2
    subst e1 e3
    have sm : Same H (upd H T (.frz o (.tup [x, y]))) := same_upd e2 _
    exact ⟨sm, .tup ⟨o, upd_same, eo⟩ (.cons (m1.ext (same_ext sm)) (.cons (m2.ext (same_ext sm)) .nil))⟩
section
variable {X : Cx} {H0 : Hp} {e e2 : Expr} {f g : Evl} {pos : Pos}
theorem pi_zipD {m : Bool} {p tpos : Pos} {elts : List Expr} {kk : Nat} {x : Str} (hx : x = "zip") (hg : Gl X x) (hm : X.mg x = none) (ha : PE X e (tR X.K H0 f)) (hb : PE X e2 (tR X.K H0 g)) (h1 : plainArg e = true) (h2 : plainArg e2 = true) :
    PI X (.Tuple elts kk tpos) (.Call (.Name x p) [e, e2] [] pos) (tI m X.K H0 fun ρ => (f ρ).bind fun x => (g ρ).bind fun y => zipEv x y) := by
  subst hx
  have s2 : starEach [e2] X.env = [(false, eval e2 X.env)] := star_cons h2
  refine pi_mono (pi_zF hg hm (pa_cons ha (pa_cons hb pa_nil (star_cons h2)) (star_cons h1)) (star_cons h1) (by rw [s2]; rfl)) fun σ H R ⟨ρ, ds, r, hf, q⟩ => ?_
  obtain ⟨d, hd, hf⟩ := bs hf
  obtain ⟨d2, hd2, hs⟩ := bs hf
  unfold zipEv at hs
  split at hs <;> first | (cases hs; done) | skip
  split at hs <;> first | (cases hs; done) | skip
  cases hs
  refine ⟨ρ, _, r, hd, fun v H1 s1 h1 => ⟨ρ, _, r.mono s1, hd2, fun w H2 s2 h2 => ?_⟩⟩
  obtain ⟨a, xs, rfl, ra, ta⟩ := (h1.same s2).tupE
  obtain ⟨b, ys, rfl, rb, tb⟩ := h2.tupE
  refine ⟨a, b, xs, ys, rfl, ra.sq, rb.sq, q _ H2 _ (s1.trans s2) walk_zF ⟨⟨ra, ta⟩, rb, tb⟩ ?_⟩
  cases m with
  | true => exact fun K1 K2 e ⟨⟨z1, z2⟩, z3, z4⟩ => ⟨⟨(same_ext e).tp z1, z2.ext (same_ext e)⟩, (same_ext e).tp z3, z4.ext (same_ext e)⟩
  | false => exact fun K1 K2 e ⟨⟨z1, z2⟩, z3, z4⟩ => ⟨⟨e.tp z1, z2.ext e⟩, e.tp z3, z4.ext e⟩
end
end Lr
namespace Lr
open PySem PySem.Spec PyProof.Rows L2
/-! ### a display of a dict with texts as keys, asked at once -/
def keyStr : Option Expr → Option Str
  | some (.Constant (.str z) _ _) => some z
  | _ => none
def compKs : List (Option Expr) → Option (List Str)
  | [] => some []
  | k :: ks => (keyStr k).bind fun z => (compKs ks).bind fun zs => some (z :: zs)
theorem compKs_some : ∀ {keys : List (Option Expr)} {ks : List Str}, compKs keys = some ks → keys.all (·.isSome) = true ∧ keys.length = ks.length
  | [], ks, h => by cases h; exact ⟨rfl, rfl⟩
  | k :: keys, ks, h => by
    unfold compKs at h
    obtain ⟨z, hz, h⟩ := bs h
    obtain ⟨zs, hzs, h⟩ := bs h
    cases h
    obtain ⟨h1, h2⟩ := compKs_some hzs
    unfold keyStr at hz
    split at hz <;> first | (cases hz; done) | skip
    exact ⟨by simpa using h1, by simp [h2]⟩
def keyed : List Str → List V → List (Key × V)
  | k :: ks, v :: vs => (.inr k, v) :: keyed ks vs
  | _, _ => []
theorem keyed_len : ∀ (ks : List Str) (vs : List V), (keyed ks vs).length ≤ ks.length
  | [], _ => Nat.zero_le _
  | _ :: _, [] => Nat.zero_le _
  | k :: ks, v :: vs => Nat.succ_le_succ (keyed_len ks vs)
theorem dlook_has {K : PySem.W.Frag} {H : Hp} : ∀ {ks : List Str} {vs : List V} {ws : List PyData} {z : Str} {acc : List (Key × V)} {df dw : Option PyData}, HasAll K H vs ws → (∀ v, valV acc (.inr z) = some v → ∃ d, df = some d ∧ Has K H v d) → (valV acc (.inr z) = none → df = dw) →
    (∀ v, valV (mergeK acc (keyed ks vs)) (.inr z) = some v → ∃ d, dlook ks ws z df = some d ∧ Has K H v d) ∧ (valV (mergeK acc (keyed ks vs)) (.inr z) = none → dlook ks ws z df = dw)
  | [], vs, ws, z, acc, df, dw, t, h1, h2 => by
    have e1 : keyed [] vs = [] := by cases vs <;> rfl
    have e2 : dlook [] ws z df = df := by cases ws <;> rfl
    rw [e1, e2]
    exact ⟨h1, h2⟩
  | k :: ks, [], ws, z, acc, df, dw, t, h1, h2 => by
    cases t
    exact ⟨h1, h2⟩
  | k :: ks, v :: vs, ws, z, acc, df, dw, t, h1, h2 => by
    cases t with
    | @cons _ _ d ds hv tv =>
      show (∀ u, valV (mergeK (putK acc (.inr k) v) (keyed ks vs)) (.inr z) = some u → ∃ e, dlook ks ds z (if z = k then some d else df) = some e ∧ Has K H u e) ∧ _
      refine dlook_has tv (fun u hu => ?_) (fun hn => ?_)
      · rw [valV_put] at hu
        by_cases e : z = k
        · subst e
          rw [if_pos rfl] at hu
          cases hu
          exact ⟨d, by simp, hv⟩
        · rw [if_neg (by intro q; injection q with q; exact e q)] at hu
          obtain ⟨d', q1, q2⟩ := h1 u hu
          exact ⟨d', by simp [e, q1], q2⟩
      · rw [valV_put] at hn
        by_cases e : z = k
        · subst e
          rw [if_pos rfl] at hn
          cases hn
        · rw [if_neg (by intro q; injection q with q; exact e q)] at hn
          simp [e, h2 hn]
section
variable {X : Cx} {H0 : Hp} {pos : Pos}
/-- the values' readings, one by one -/
inductive ValsE (X : Cx) (H0 : Hp) : List Expr → Evls → Prop
  | nil : ValsE X H0 [] fun _ => some []
  | cons {e : Expr} {es : List Expr} {f : Evl} {gs : Evls} : PE X e (tE X.K H0 f) → ValsE X H0 es gs → ValsE X H0 (e :: es) fun ρ => (f ρ).bind fun d => (gs ρ).bind fun ds => some (d :: ds)
theorem pairs_run : ∀ {keys : List (Option Expr)} {values : List Expr} {ks : List Str} {gs : Evls}, compKs keys = some ks → ValsE X H0 values gs → keys.length = values.length →
    ∃ trs, PPs X pos keys values trs ∧ ∀ (σ : L2.St) (H : Hp) (ρ : Rho) (ws : List PyData) (Q : List (V × V) → Hp → Prop), RelEnv X.K H0 H σ ρ → gs ρ = some ws → (∀ vs H', Same H H' → HasAll X.K H' vs ws → Q ((keyed ks vs).map fun kv => (kV kv.1, kv.2)) H') → tPairs trs σ H Q
  | [], [], ks, gs, hk, hv, _ => by
    cases hk
    cases hv
    exact ⟨[], pps_nil, fun σ H ρ ws Q r he q => by cases he; exact q [] H (Same.refl _) .nil⟩
  | [], _ :: _, ks, gs, hk, hv, hl => by cases hl
  | _ :: _, [], ks, gs, hk, hv, hl => by cases hl
  | k :: keys, v :: values, ks, gs, hk, hv, hl => by
    unfold compKs at hk
    obtain ⟨z, hz, hk⟩ := bs hk
    obtain ⟨zs, hzs, hk⟩ := bs hk
    cases hk
    unfold keyStr at hz
    split at hz <;> first | (cases hz; done) | skip
    cases hz
    cases hv with
    | @cons _ _ f gs' he hr =>
      obtain ⟨trs, h1, h2⟩ := pairs_run hzs hr (Nat.succ.inj hl)
      refine ⟨_, pps_cons pe_str he h1, fun σ H ρ ws Q r hw q => ?_⟩
      obtain ⟨d, hd, hw⟩ := bs hw
      obtain ⟨ds, hds, hw⟩ := bs hw
      cases hw
      exact ⟨ρ, d, r, hd, fun u H1 s1 hu => h2 σ H1 ρ ds _ (r.mono s1) hds fun vs H2 s2 hvs => q (u :: vs) H2 (s1.trans s2) (.cons (hu.ext (same_ext s2)) hvs)⟩
/-- what the display leaves: a dict at p, nothing else changed -/
def tDisF (K : PySem.W.Frag) (H0 : Hp) (ks : List Str) (gs : Evls) : TE := fun σ H Q => ∃ ρ ws, RelEnv K H0 H σ ρ ∧ gs ρ = some ws ∧ ∀ p vs H', Same H H' → HasAll K H' vs ws → H' p = some (.dK (mergeK [] (keyed ks vs))) → Q (.ref p) H'
theorem pe_disF {keys : List (Option Expr)} {values : List Expr} {ks : List Str} {gs : Evls} (hk : compKs keys = some ks) (hv : ValsE X H0 values gs) (hl : keys.length = values.length) (h0 : keys ≠ []) (h15 : keys.length ≤ 15) : PE X (.Dict keys values pos) (tDisF X.K H0 ks gs) := by
  obtain ⟨trs, h1, h2⟩ := pairs_run (pos := pos) hk hv hl
  obtain ⟨k1, k2⟩ := compKs_some hk
  refine pe_mono (pe_disp h1 k1 hl h0 h15) fun σ H Q ⟨ρ, ws, r, he, q⟩ p hp => ?_
  have sm := same_upd hp (.dK [])
  refine h2 σ _ ρ ws _ (r.mono sm) he fun vs H2 s2 hvs => ?_
  have e2 : H2 p = some (.dK []) := s2 _ _ upd_same
  refine ⟨e2, keyed ks vs, rfl, by have := keyed_len ks vs; omega, ?_⟩
  have ex : Ext H2 (upd H2 p (.dK (mergeK [] (keyed ks vs)))) := ⟨fun b xs qb => by rw [upd_ne (by intro z; rw [z, e2] at qb; cases qb)]; exact qb, fun b o u qb => by rw [upd_ne (by intro z; rw [z, e2] at qb; cases qb)]; exact qb⟩
  refine q p vs _ (fun b u qb => ?_) (hvs.ext ex) upd_same
  rw [upd_ne (ne_of_none qb hp)]
  exact s2 _ _ (sm _ _ qb)
theorem pe_dsubD {keys : List (Option Expr)} {values : List Expr} {ks : List Str} {gs : Evls} {f : Evl} {e : Expr} {dpos : Pos} (hu : X.A.units + 1 < cLine) (hk : compKs keys = some ks) (hv : ValsE X H0 values gs) (hl : keys.length = values.length) (h0 : keys ≠ []) (h15 : keys.length ≤ 15) (he : PE X e (tR X.K H0 f)) (hs : NoSl e) :
    PE X (.Subscript (.Dict keys values dpos) e pos) (tE X.K H0 fun ρ => (gs ρ).bind fun ws => (f ρ).bind fun kd => dgetEv ks ws none kd) := by
  refine pe_mono (pe_dget hu (pe_disF hk hv hl h0 h15) he hs) fun σ H Q ⟨ρ, d, r, hf, q⟩ => ?_
  obtain ⟨ws, hw, hf⟩ := bs hf
  obtain ⟨kd, hkd, hf⟩ := bs hf
  refine ⟨ρ, ws, r, hw, fun p vs H1 s1 hvs hp => ⟨ρ, kd, r.mono s1, hkd, fun y H2 s2 hy => ?_⟩⟩
  unfold dgetEv at hf
  split at hf <;> first | (cases hf; done) | skip
  obtain rfl := hy.strE
  rename_i z
  have hp2 := s2 _ _ hp
  obtain ⟨g1, g2⟩ := dlook_has (K := X.K) (H := H2) (ks := ks) (z := z) (acc := []) (df := none) (dw := none) (hvs.ext (same_ext s2)) (fun v hv => by cases hv) (fun _ => rfl)
  cases hval : valV (mergeK [] (keyed ks vs)) (.inr z) with
  | none => rw [g2 hval] at hf; cases hf
  | some v =>
    obtain ⟨d', q1, q2⟩ := g1 v hval
    rw [q1] at hf
    cases hf
    exact ⟨p, v, rfl, .inl ⟨_, .inr z, .inl hp2, rfl, hval.symm⟩, q _ _ (s1.trans s2) q2⟩
theorem pe_dget2D {keys : List (Option Expr)} {values : List Expr} {ks : List Str} {gs : Evls} {f g : Evl} {e e2 : Expr} {dpos apos : Pos} {m : Str} (hm : m = "get") (hu : X.A.units + 1 < cLine) (hk : compKs keys = some ks) (hv : ValsE X H0 values gs) (hl : keys.length = values.length) (h0 : keys ≠ []) (h15 : keys.length ≤ 15) (he : PE X e (tR X.K H0 f)) (hd : PE X e2 (tE X.K H0 g)) (h1 : plainArg e = true) (h2 : plainArg e2 = true) (h3 : (apos.endLine == pos.line) = true) :
    PE X (.Call (.Attribute (.Dict keys values dpos) m apos) [e, e2] [] pos) (tE X.K H0 fun ρ => (gs ρ).bind fun ws => (f ρ).bind fun kd => ((g ρ).map some).bind fun df => dgetEv ks ws df kd) := by
  subst hm
  have st : starEach [e, e2] X.env = [(false, eval e X.env), (false, eval e2 X.env)] := by rw [star_cons h1, star_cons h2]; rfl
  refine pe_mono (pe_dget2 hu (pe_disF hk hv hl h0 h15) he hd ⟨rfl, by rw [st]; rfl, h3, by rw [st]; rfl⟩) fun σ H Q ⟨ρ, d, r, hf, q⟩ => ?_
  obtain ⟨ws, hw, hf⟩ := bs hf
  obtain ⟨kd, hkd, hf⟩ := bs hf
  obtain ⟨df, hdf, hf⟩ := bs hf
  obtain ⟨w0, hw0, rfl⟩ := Option.map_eq_some_iff.mp hdf
  refine ⟨ρ, ws, r, hw, fun p vs H1 s1 hvs hp => ⟨p, rfl, .inl ⟨_, .inl hp⟩, ρ, kd, r.mono s1, hkd, fun y H2 s2 hy => ⟨ρ, w0, (r.mono s1).mono s2, hw0, fun z0 H3 s3 hz0 => ?_⟩⟩⟩
  unfold dgetEv at hf
  split at hf <;> first | (cases hf; done) | skip
  obtain rfl := hy.strE
  rename_i z _
  have hp3 := s3 _ _ (s2 _ _ hp)
  obtain ⟨g1, g2⟩ := dlook_has (K := X.K) (H := H3) (ks := ks) (z := z) (acc := []) (df := some w0) (dw := some w0) ((hvs.ext (same_ext s2)).ext (same_ext s3)) (fun v hv => by cases hv) (fun _ => rfl)
  refine ⟨valV (mergeK [] (keyed ks vs)) (.inr z), .inl ⟨_, .inr z, .inl hp3, rfl, rfl⟩, ?_⟩
  cases hval : valV (mergeK [] (keyed ks vs)) (.inr z) with
  | none =>
    rw [g2 hval] at hf
    cases hf
    exact q _ _ ((s1.trans s2).trans s3) hz0
  | some v =>
    obtain ⟨d', q1, q2⟩ := g1 v hval
    rw [q1] at hf
    cases hf
    exact q _ _ ((s1.trans s2).trans s3) q2
end
end Lr
/-! ### set(x), x a list or a tuple: by an invariant of the set and one add -/
namespace LrS0
open PySem PyProof.Rows L2
section
variable {prog : Program} {w : World} {A : Around} {R : Result → Shared → Prop} {I : Addr} {fp wr : List Addr} {G : Array GenState → Array GenState → Prop} {n : Nat} {P : Nat → Value → Prop} {St : Nat → Shared → Prop}
/-- the loop of set.update -/
theorem upd_loop (W : WalksS prog w A.in1 I fp wr G n P St) (S : Addr) (hS : S ∉ fp) (J : Nat → Heap → Prop)
    (stay : ∀ i (h h' : Heap), J i h → (∀ b o, b ∉ wr → h.get? b = some o → h'.get? b = some o) → J i h')
    (add : ∀ i v (s : Shared) (E : Value → Shared → Prop) (Q : Bool → Shared → Prop), i < n → P i v → J i s.heap → (∀ (h' : Heap) tk b, s.toks ≤ tk → Heap.SameBut S s.heap h' → J (i + 1) h' → Q b { s with heap := h', toks := tk }) → wpAny (model prog w) A.in1 (setAdd S v) Q E s) :
    ∀ (m i : Nat) (s : Shared), i + m = n → St i s → J i s.heap → (∀ s', Moved (S :: wr) G s s' → J n s'.heap → R (.ok (.ret .none)) s') → codeAny (model prog w) A (.builtin "set.update.loop" ⟨[.ref S, .ref I], []⟩) R s
  | 0, i, s, hm, st, j, fin => by
    obtain rfl : i = n := hm
    refine codeAny_builtin F.entry_set_update_loop ?_
    rw [Around.under_plainId F.plain_set_update_loop _]
    show wpAny _ A.in1 (pyNext (.ref I) >>= _) _ _ s
    refine wpAny_bind (W.done s _ _ st fun s' mv => ?_)
    exact wpAny_pure (fin s' (mv.mono fun b hb => List.mem_cons_of_mem _ hb) (stay _ _ _ j fun b o hb e => mv.heap b o hb e))
  | m + 1, i, s, hm, st, j, fin => by
    refine codeAny_builtin F.entry_set_update_loop ?_
    rw [Around.under_plainId F.plain_set_update_loop _]
    show wpAny _ A.in1 (pyNext (.ref I) >>= _) _ _ s
    refine wpAny_bind (W.item i s _ _ (by omega) st fun v s1 hP st1 mv => ?_)
    have j1 : J i s1.heap := stay _ _ _ j fun b o hb e => mv.heap b o hb e
    show wpAny _ A.in1 (holding [v] (setAdd S v) >>= _) _ _ s1
    refine wpAny_bind (wpAny_holding (add i v s1 _ _ (by omega) hP j1 fun h2 tk b le sb j2 => ?_))
    refine wpAny_pure ⟨plainId_quiet F.plain_set_update_loop _, upd_loop W S hS J stay add m (i + 1) _ (by omega) (W.frame _ s1 _ _ st1 le fun b hb o e => ?_) j2 fun s3 mv3 j3 => ?_⟩
    · exact (sb.2 b fun z => hS (z ▸ hb)).trans e
    · refine fin s3 (Moved.trans W.gtrans ((mv.mono fun b hb => List.mem_cons_of_mem _ hb).then_heap le fun b o hb e => ?_) mv3) j3
      exact (sb.2 b fun z => hb (z ▸ List.mem_cons_self)).trans e
end
theorem sub_tuple_set : isSubtype (.type "tuple") (.type "set") = pure false := by rw [isSubtype_type]; kernel_rfl
theorem sub_tuple_frozenset : isSubtype (.type "tuple") (.type "frozenset") = pure false := by rw [isSubtype_type]; kernel_rfl
abbrev newS (led : Bool) : Obj := { cls := .type "set", dict := none, data := .set #[] 0 (.fresh 0 0 led) }
section
variable {prog : Program} {w : World} {A : Around} {E : Value → Shared → Prop} {s : Shared}
set_option maxHeartbeats 3200000 in
/-- set(x) -/
theorem set_seq {l : Addr} {ob : Obj} {items : Array Value} {nl : Nat} {T : String} {Q : Value → Shared → Prop} (hT : T = "list" ∨ T = "tuple") (hh : A.handled = none) (ho : s.heap.get? l = some ob) (hc : ob.cls = .type T) (hd : ob.data = .seq items nl)
    (J : Nat → Heap → Prop) (j0 : ∀ h : Heap, h.get? s.heap.objs.size = some (newS (!w.params.followText "set-order")) → (∀ b o, s.heap.get? b = some o → h.get? b = some o) → J 0 h)
    (stay : ∀ i (h h' : Heap), J i h → (∀ b o, b ≠ s.heap.objs.size + 1 → h.get? b = some o → h'.get? b = some o) → J i h')
    (add : ∀ i v (s1 : Shared) (E1 : Value → Shared → Prop) (Q1 : Bool → Shared → Prop), items[i]? = some v → J i s1.heap → (∀ (h' : Heap) tk b, s1.toks ≤ tk → Heap.SameBut s.heap.objs.size s1.heap h' → J (i + 1) h' → Q1 b { s1 with heap := h', toks := tk }) → wpAny (model prog w) A.in1.in1.in1 (setAdd s.heap.objs.size v) Q1 E1 s1)
    (fin : ∀ (h' : Heap) tk, J items.size h' → (∀ b o, s.heap.get? b = some o → h'.get? b = some o) → Q (.ref s.heap.objs.size) { s with heap := h', toks := tk }) : wpAny (model prog w) A (call (.type "set") [.ref l]) Q E s := by
  obtain ⟨c, tl, hmro⟩ := F.called_set.mro
  have hmade := F.called_set.made
  have hsub := F.called_set.sub
  have hlS : l < s.heap.objs.size := Heap.lt_size ho
  refine wpAny_call (codeAny_of_tree ?_)
  show wpAny _ _ (callAny (.type "set") _) _ _ _
  refine wpAny_pure ⟨Code.quiet_builtin _ (by decide +kernel), codeAny_builtin F.entry_type_call ?_⟩
  rw [Around.under_plain (weight_type_call_type "set" [.ref l] []) rfl]
  have h1 := F.called_set.notType
  have h2 := F.called_set.canCreate
  have hct := F.typeCall_set_1 (.ref l)
  repeat (any_goals (first | assumption | wp_step))
  refine codeAny_mono (code_set_led1 (.ref l) (E := E) (Q₁ := fun v s1 => v = .ref s.heap.objs.size ∧ s1 = { s with heap := s.heap.push (newS (!w.params.followText "set-order")) }) ⟨rfl, rfl⟩) fun r s1 hr => ?_
  cases r with
  | error e => exact hr
  | ok fl =>
    cases fl with
    | ret v =>
      obtain ⟨rfl, rfl⟩ := hr
      obtain ⟨led, eled⟩ : ∃ b : Bool, b = !w.params.followText "set-order" := ⟨_, rfl⟩
      rw [← eled] at j0 ⊢
      have gS : (s.heap.push (newS led)).get? s.heap.objs.size = some (newS led) := Heap.get?_push_size _ rfl
      have tS : Shared.TypeIs { s with heap := s.heap.push (newS led) } (.ref s.heap.objs.size) "set" := ⟨_, gS, rfl⟩
      have hli := F.called_set.init.lookup
      have hbi := F.called_set.init.bind (.ref s.heap.objs.size)
      repeat (any_goals (first | assumption | wp_step))
      refine codeAny_mono (codeAny_call_builtin (R := wants (fun r s2 => r = .none ∧ ∃ (h' : Heap) (tk : Nat), s2 = { s with heap := h', toks := tk } ∧ J items.size h' ∧ ∀ b o, s.heap.get? b = some o → h'.get? b = some o) E) F.called_set.init.plain F.entry_set_init (check_set_init_1 tS ?_)) fun r2 s2 hr2 => ?_
      · obtain ⟨oc, od, odt, osl⟩ := ob
        simp only at hc hd
        subst hc hd
        have gl : (s.heap.push (newS led)).get? l = some { cls := .type T, dict := od, data := .seq items nl, slots := osl } := Heap.get?_push_of_some _ ho
        have sz : (s.heap.push (newS led)).objs.size = s.heap.objs.size + 1 := Heap.size_push ..
        have hh3 : A.in1.in1.in1.handled = none := by simp [hh]
        have nI : l ≠ (s.heap.push (newS led)).objs.size := by rw [sz]; exact Nat.ne_of_lt (Nat.lt_succ_of_lt hlS)
        have nS : s.heap.objs.size ∉ [(s.heap.push (newS led)).objs.size, l] := by
          rw [sz]
          simp only [List.mem_cons, List.not_mem_nil, or_false, not_or]
          exact ⟨Nat.ne_of_lt (Nat.lt_succ_self _), Nat.ne_of_gt hlS⟩
        have stay2 : ∀ i (h h' : Heap), J i h → (∀ b o, b ∉ [(s.heap.push (newS led)).objs.size] → h.get? b = some o → h'.get? b = some o) → J i h' := fun i h h' j kp => stay i h h' j fun b o nb e => kp b o (by rw [sz]; simpa using nb) e
        have add2 : ∀ i v (s1 : Shared) (E1 : Value → Shared → Prop) (Q1 : Bool → Shared → Prop), i < items.size → items[i]? = some v → J i s1.heap → (∀ (h' : Heap) tk b, s1.toks ≤ tk → Heap.SameBut s.heap.objs.size s1.heap h' → J (i + 1) h' → Q1 b { s1 with heap := h', toks := tk }) → wpAny (model prog w) A.in1.in1.in1 (setAdd s.heap.objs.size v) Q1 E1 s1 := fun i v s1 E1 Q1 _ hv j q => add i v s1 E1 Q1 hv j q
        have fin2 : ∀ (it : Obj) (s' : Shared), Moved [s.heap.objs.size, (s.heap.push (newS led)).objs.size] (fun a b => b = a) { s with heap := (s.heap.push (newS led)).push it } s' → J items.size s'.heap → ∃ (h' : Heap) (tk : Nat), s' = { s with heap := h', toks := tk } ∧ J items.size h' ∧ ∀ b o, s.heap.get? b = some o → h'.get? b = some o := by
          intro it s' mv j
          obtain ⟨h', g', d', tk', os'⟩ := s'
          have eg : g' = s.gens := mv.gens
          have ed : d' = s.drawn := mv.drawn
          have eo : os' = s.os := mv.os
          subst eg ed eo
          refine ⟨h', tk', rfl, j, fun b o e => ?_⟩
          have lb : b < s.heap.objs.size := Heap.lt_size e
          exact mv.heap b o (by rw [sz]; simp only [List.mem_cons, List.not_mem_nil, or_false, not_or]; exact ⟨Nat.ne_of_lt lb, Nat.ne_of_lt (Nat.lt_succ_of_lt lb)⟩) (Heap.get?_push_of_some _ (Heap.get?_push_of_some _ e))
        rcases hT with rfl | rfl
        · have q1 := F.sub_list_set
          have q2 := F.sub_list_frozenset
          have q3 : (Value.type "list" == Value.type "dict") = false := by decide
          have il : (s.heap.push (newS led)).IsList l items := ⟨_, gl, rfl, nl, rfl⟩
          unfold Builtin.«set.__init__» noKeywords Builtin.Frozenset.updateFrom
          generalize hPI : pyIter = PI
          wp_walk
          subst hPI
          refine wpAny_pyIter_list il (wpAny_bind (wpAny_runValue ?_))
          refine upd_loop (n := items.size) (P := fun i v => items[i]? = some v) (Walks.list hh3 _ l nI items).toS s.heap.objs.size nS J stay2 add2 items.size 0 _ (Nat.zero_add _) ⟨⟨_, Heap.get?_push_size _ rfl, rfl, rfl⟩, il.push _⟩ (j0 _ (Heap.get?_push_of_some _ gS) fun b o e => Heap.get?_push_of_some _ (Heap.get?_push_of_some _ e)) fun s' mv j => ?_
          exact wpAny_pure (wpAny_pure ⟨rfl, fin2 _ s' mv j⟩)
        · have q1 := sub_tuple_set
          have q2 := sub_tuple_frozenset
          have q3 : (Value.type "tuple" == Value.type "dict") = false := by decide
          have it : (s.heap.push (newS led)).IsTuple l items := ⟨_, gl, rfl, nl, rfl⟩
          unfold Builtin.«set.__init__» noKeywords Builtin.Frozenset.updateFrom
          generalize hPI : pyIter = PI
          wp_walk
          subst hPI
          refine wpAny_pyIter_tuple it (wpAny_bind (wpAny_runValue ?_))
          refine upd_loop (n := items.size) (P := fun i v => items[i]? = some v) (Walks.tuple hh3 _ l nI items).toS s.heap.objs.size nS J stay2 add2 items.size 0 _ (Nat.zero_add _) ⟨⟨_, Heap.get?_push_size _ rfl, rfl, rfl⟩, it.push _⟩ (j0 _ (Heap.get?_push_of_some _ gS) fun b o e => Heap.get?_push_of_some _ (Heap.get?_push_of_some _ e)) fun s' mv j => ?_
          exact wpAny_pure (wpAny_pure ⟨rfl, fin2 _ s' mv j⟩)
      · cases r2 with
        | error e => exact hr2
        | ok fl2 =>
          cases fl2 with
          | ret r =>
            obtain ⟨rfl, h', tk, rfl, j, kp⟩ := hr2
            repeat (any_goals (first | assumption | wp_step))
            exact fin _ _ j kp
          | _ => exact hr2.elim
    | _ => exact hr.elim
end
end LrS0
namespace Lr
open PySem PySem.Spec PyProof.Rows L2
theorem cntN_le (zs : List Str) : ∀ i, cntN zs i ≤ i
  | 0 => Nat.le_refl _
  | i + 1 => by unfold cntN; have := cntN_le zs i; split <;> omega
section
variable {X : Cx} {H0 : Hp} {a : Expr} {f : Evl}
def keyZ (z : Str) : Key := .inr z
def memK (zs : List Str) (i : Nat) (k : Key) : Bool := (zs.take i).any fun z => decide (k = keyZ z)
theorem setOf_eq {P : Program} {w : World} {h : Heap} {a : Addr} {S S' : Key → Bool} {n n' : Nat} (hS : h.SetOf (mixKind P w) a S n) (e : ∀ k, S k = S' k) (en : n = n') : h.SetOf (mixKind P w) a S' n' := by
  obtain rfl : S = S' := funext e
  subst en
  exact hS
theorem set_strs {pins : List (Addr × Obj)} {σ : L2.St} {H : Hp} {s : Shared} {Q : Value → Shared → Prop} {p : Addr} {zs : List Str} (hh : X.A.handled = none) (I : Inv X pins σ H s) (hp : SqT X.K H p (zs.map V.str)) (hl : zs.length ≤ 1000)
    (q : ∀ (h' : Heap) (tk : Nat) (S : Addr) (A : Key → Bool), h'.SetOf (mixKind X.prog X.w) S A (cntN zs zs.length) → (∀ b o, s.heap.get? b = some o → h'.get? b = some o) → Q (.ref S) { s with heap := h', toks := tk }) :
    wpAny (model X.prog X.w) X.A (call (.type "set") [.ref p]) Q X.xe s := by
  obtain ⟨its, rv, ⟨o, ho, hc, n, hd⟩, hz⟩ := I.tuple hp
  have len : its.toArray.size = zs.length := by rw [List.size_toArray, ← rv.length, List.length_map]
  refine LrS0.set_seq (.inr rfl) hh ho hc hd (fun i h => h.SetOf (mixKind X.prog X.w) s.heap.objs.size (memK zs i) (cntN zs i)) (fun h g _ => ?_) (fun i h h' j kp => ?_) (fun i v s1 E1 Q1 hv j k => ?_) (fun h' tk j kp => ?_)
  · exact ⟨_, #[], 0, _, g, ⟨rfl, rfl, rfl⟩, rfl, (fun e he => by simp at he), (fun k => by simp [memK]), by decide, rfl, rfl⟩
  · exact setOf_at j fun ob e => kp _ ob (Nat.ne_of_lt (Nat.lt_succ_self _)) e
  · have hi : i < its.length := by
      have := (Array.getElem?_eq_some_iff.mp hv).1
      simpa using this
    have hi2 : i < zs.length := by rw [← len]; simpa using hi
    obtain ⟨u, hu, ru⟩ := rv.get (show (zs.map V.str)[i]? = some (.str zs[i]) by simp [hi2])
    have : u = v := by
      have h1 : its.toArray[i]? = some u := by simpa using hu
      rw [h1] at hv
      exact Option.some.inj hv
    subst this
    have is := kV_is (P := X.prog) (w := X.w) (k := keyZ zs[i]) (u := u) ru
    unfold setAdd
    refine wpAny_holding (wpAny_bind ((mixKind X.prog X.w).pyHash is ?_))
    have cl := cntN_le zs i
    refine wpAny_setAddHashed_of (s := { s1 with toks := s1.toks + 1 }) is (key_scan (k := keyZ zs[i]) ru) j (by unfold scanBound; omega) fun h' sb j2 => ?_
    refine k h' _ _ (Nat.le_succ _) sb (setOf_eq j2 (fun k' => ?_) ?_)
    · unfold memK
      rw [List.take_add_one, List.getElem?_eq_getElem hi2, List.any_append]
      simp
    · have e1 : memK zs i (keyZ zs[i]) = decide (zs[i] ∈ zs.take i) := by
        unfold memK
        rw [Bool.eq_iff_iff, List.any_eq_true]
        simp only [decide_eq_true_eq]
        constructor
        · rintro ⟨z, hz, e⟩
          have e : (Sum.inr zs[i] : Key) = .inr z := e
          injection e with e
          rw [e]; exact hz
        · intro h
          exact ⟨_, h, rfl⟩
      have e2 : zs.getD i "" = zs[i] := by simp [hi2]
      rw [e1]
      show (if decide (zs[i] ∈ zs.take i) = true then cntN zs i else cntN zs i + 1) = cntN zs (i + 1)
      have e3 : cntN zs (i + 1) = if (zs.getD i "") ∈ zs.take i then cntN zs i else cntN zs i + 1 := rfl
      rw [e3, e2]
      by_cases q : zs[i] ∈ zs.take i
      · rw [if_pos (decide_eq_true q), if_pos q]
      · rw [if_neg (by simpa using q), if_neg q]
  · rw [len] at j
    exact q h' tk _ _ j kp
theorem pe_lenSetD {x y : Str} {p p2 q pos : Pos} (hx : x = "len") (hy : y = "set") (hh : X.A.handled = none) (hg : Gl X x) (hm : X.mg x = none) (hg2 : Gl X y) (hm2 : X.mg y = none) (ha : PE X a (tR X.K H0 f)) (h1 : plainArg a = true) :
    PE X (.Call (.Name x p) [.Call (.Name y p2) [a] [] q] [] pos) (tE X.K H0 fun ρ => (f ρ).bind fun d => lenSetEv [d]) := by
  subst hx hy
  have na : starEach [a] X.env = (false, eval a X.env) :: starEach [] X.env := star_cons h1
  refine ⟨fun pins s σ H Q I ⟨ρ, d, r, hf, k⟩ => ?_⟩
  obtain ⟨v, hv, hf⟩ := bs hf
  unfold lenSetEv at hf
  split at hf <;> first | (cases hf; done) | skip
  rename_i ds el
  cases el
  obtain ⟨zs, hz, hf⟩ := bs hf
  split at hf <;> first | (cases hf; done) | skip
  rename_i hl
  cases hf
  have hl := of_decide_eq_true hl
  refine Call_ (ld_blt I hg hm PySem.boot_len (PyProof.Rows.callWith_builtin1 (PyProof.Rows.args_cons ?_ rfl) rfl rfl))
  refine Call_ (ld_blt I hg2 hm2 PyProof.Rows.boot_set (PyProof.Rows.callWith_type1 (PyProof.Rows.args_cons ?_ na) na rfl))
  refine thn (ha.run pins s σ H (fun w H1 => Same H H1 ∧ HasR X.K H1 w (.tuple ds)) I ⟨ρ, _, r, hv, fun w H1 s1 z => ⟨s1, z⟩⟩) fun u s1 ⟨w, H1, I1, r1, sm, hw⟩ => PyProof.Rows.args_nil ?_
  obtain ⟨pa, ws, rfl, tp, tw⟩ := hw.tupE
  cases r1
  obtain rfl := strs_has hz tw
  refine set_strs hh I1 tp.sq hl fun h' tk S A hS kp => PyProof.Rows.args_nil ?_
  obtain ⟨o, es, ep, t, g, ex, hd, _, _, _, hf, hn⟩ := hS
  have I2 : Inv X pins σ H1 { s1 with heap := h', toks := tk } := I1.kept kp
  have cl := cntN_le zs zs.length
  refine call_len_set g ex hd hf (by rw [hn]; omega) ⟨.int (cntN zs zs.length : Nat), H1, I2.tok _, ⟨_, by rw [hn]⟩, k _ _ sm (.int _)⟩
end
end Lr
namespace Lr
open PySem PySem.Spec PyProof.Rows L2
/-! ### targets -/
def Tgt.slots : Tgt → List Nat
  | .name i => [i]
  | .tup is => is
def gNames : List Nat → TGs
  | [] => gNil
  | i :: is => gCons (gName i) (gNames is)
def gD (K : PySem.W.Frag) : Tgt → TG
  | .name i => gName i
  | .tup is => fun v σ H Q => gTup K is.length (gNames is) v σ H Q ∨ gLst K is.length (gNames is) v σ H Q
theorem wipe_get (σ : L2.St) : ∀ (vs : List Nat) (j : Nat), (wipe σ vs)[j]? = if j ∈ vs then (σ[j]?).map (fun _ => none) else σ[j]?
  | [], j => by simp [wipe]
  | v :: vs, j => by
    unfold wipe
    rw [List.getElem?_set, wipe_get σ vs j, wipe_length]
    by_cases e : v = j
    · subst e
      by_cases hv : v < σ.length
      · simp [hv]
      · simp [hv]
    · have e' : j ≠ v := fun z => e z.symm
      simp [e, e']
theorem set_wiped {σ σ' : L2.St} {vs : List Nat} {i : Nat} {x : Option V} (hi : i ∈ vs) (h : wipe σ' vs = wipe σ vs) : wipe (σ'.set i x) vs = wipe σ vs := by
  rw [← h]
  refine List.ext_getElem? fun j => ?_
  rw [wipe_get, wipe_get]
  by_cases hj : j ∈ vs
  · rw [if_pos hj, if_pos hj, List.getElem?_set]
    by_cases e : i = j
    · subst e
      by_cases hl : i < σ'.length
      · simp [hl]
      · simp [hl]
    · simp [e]
  · rw [if_neg hj, if_neg hj]
    exact get_set_ne fun z => hj (z ▸ hi)
theorem wipe_wipe (σ : L2.St) (vs : List Nat) : wipe (wipe σ vs) vs = wipe σ vs := by
  refine List.ext_getElem? fun j => ?_
  rw [wipe_get, wipe_get]
  by_cases hj : j ∈ vs
  · simp only [hj, if_true, Option.map_map]
    rfl
  · simp [hj]
theorem bindT_lst {ρ : Rho} {is : List Nat} {ds : List PyData} : bindT ρ (.tup is) (.list ds) = if is.length = ds.length then some (setAll ρ is ds) else none := rfl
theorem bindT_tup {ρ : Rho} {is : List Nat} {ds : List PyData} : bindT ρ (.tup is) (.tuple ds) = if is.length = ds.length then some (setAll ρ is ds) else none := rfl
section
variable {K : PySem.W.Frag} {H0 H : Hp}
theorem gNames_run {vs0 : List Nat} {σ0 : L2.St} : ∀ {is : List Nat} {ds : List PyData} {xs : List V} {σ : L2.St} {ρ : Rho} {Q : L2.St → Hp → Prop}, RelEnv K H0 H σ ρ → HasAll K H xs ds → is.length = ds.length → (∀ i ∈ is, i ∈ vs0) → wipe σ vs0 = wipe σ0 vs0 →
    (∀ σ', RelEnv K H0 H σ' (setAll ρ is ds) → wipe σ' vs0 = wipe σ0 vs0 → Q σ' H) → gNames is xs σ H Q
  | [], ds, xs, σ, ρ, Q, r, t, hl, hv, hw, q => by
    cases ds with
    | nil => cases t; exact ⟨rfl, q σ r hw⟩
    | cons d ds => cases hl
  | i :: is, ds, xs, σ, ρ, Q, r, t, hl, hv, hw, q => by
    cases t with
    | nil => cases hl
    | cons h t =>
      refine ⟨_, _, rfl, ?_⟩
      exact gNames_run (is := is) (r.setVal i h) t (Nat.succ.inj hl) (fun j hj => hv j (List.mem_cons_of_mem _ hj)) (set_wiped (hv i List.mem_cons_self) hw) q
theorem gD_run {tg : Tgt} {d : PyData} {v : V} {σ : L2.St} {ρ ρ' : Rho} {Q : L2.St → Hp → Prop} (r : RelEnv K H0 H σ ρ) (h : Has K H v d) (hb : bindT ρ tg d = some ρ')
    (q : ∀ σ', RelEnv K H0 H σ' ρ' → wipe σ' tg.slots = wipe σ tg.slots → Q σ' H) : gD K tg v σ H Q := by
  cases tg with
  | name i =>
    cases hb
    exact q _ (r.setVal i h) (set_wiped List.mem_cons_self rfl)
  | tup is =>
    cases d with
    | tuple ds =>
      rw [bindT_tup] at hb
      split at hb
      · rename_i hl
        cases hb
        obtain ⟨a, xs, rfl, hq, t⟩ := h.r.tupE
        exact .inl ⟨a, xs, rfl, hq.sq, by rw [t.length]; exact hl.symm, gNames_run r t hl (fun _ z => z) rfl q⟩
      · cases hb
    | list ds =>
      rw [bindT_lst] at hb
      split at hb
      · rename_i hl
        cases hb
        obtain ⟨a, xs, rfl, hq, t⟩ := h.r.lstE
        exact .inr ⟨a, xs, rfl, rd_sq hq, by rw [t.length]; exact hl.symm, gNames_run r t hl (fun _ z => z) rfl q⟩
      · cases hb
    | _ => cases hb
end
theorem wipeR_get (ρ : Rho) : ∀ (vs : List Nat) (j : Nat), j ∉ vs → (wipeR ρ vs)[j]? = ρ[j]?
  | [], j, _ => rfl
  | v :: vs, j, h => by
    unfold wipeR
    have e : v ≠ j := fun z => h (by rw [z]; exact List.mem_cons_self)
    rw [get_set_ne e, wipeR_get ρ vs j fun z => h (List.mem_cons_of_mem _ z)]
theorem wipeR_length (ρ : Rho) : ∀ vs : List Nat, (wipeR ρ vs).length = ρ.length
  | [] => rfl
  | v :: vs => by unfold wipeR; rw [List.length_set, wipeR_length ρ vs]
theorem setAll_agree : ∀ {is : List Nat} {ds : List PyData} {ρ1 ρ2 : Rho}, is.length = ds.length → ρ1.length = ρ2.length → (∀ j, j ∉ is → ρ1[j]? = ρ2[j]?) → setAll ρ1 is ds = setAll ρ2 is ds
  | [], ds, ρ1, ρ2, hl, _, h => by
    cases ds with
    | nil => unfold setAll; exact List.ext_getElem? fun j => h j (by simp)
    | cons d ds => cases hl
  | i :: is, [], ρ1, ρ2, hl, _, h => by cases hl
  | i :: is, d :: ds, ρ1, ρ2, hl, hn, h => by
    unfold setAll
    refine setAll_agree (Nat.succ.inj hl) (by rw [List.length_set, List.length_set]; exact hn) fun j hj => ?_
    by_cases e : i = j
    · subst e
      rw [List.getElem?_set, List.getElem?_set, hn, if_pos rfl, if_pos rfl]
    · rw [get_set_ne e, get_set_ne e]
      exact h j fun z => (List.mem_cons.mp z).elim (fun w => e w.symm) hj
theorem bind_wiped {ρ : Rho} {tg : Tgt} {d : PyData} : bindT (wipeR ρ tg.slots) tg d = bindT ρ tg d := by
  cases tg with
  | name i =>
    show some _ = some _
    congr 1
    show ((ρ.set i .none).set i _) = _
    rw [List.set_set]
  | tup is =>
    cases d with
    | tuple ds =>
      rw [bindT_tup, bindT_tup]
      split
      · rename_i hl
        congr 1
        exact setAll_agree hl (wipeR_length _ _) fun j hj => wipeR_get _ _ _ hj
      · rfl
    | list ds =>
      rw [bindT_lst, bindT_lst]
      split
      · rename_i hl
        congr 1
        exact setAll_agree hl (wipeR_length _ _) fun j hj => wipeR_get _ _ _ hj
      · rfl
    | _ => rfl
/-! ### comprehensions -/
def lcF (tg : Tgt) (fi : Evls) (fc fe : Evl) : Evl := fun ρ => (fi ρ).bind fun ds => (lcRun (fun d => (bindT ρ tg d).bind fun ρ' => (fc ρ').bind fun k => condD k (fe ρ')) ds).map .list
theorem condD_some {k : PyData} {y : Option PyData} {o : Option PyData} (h : condD k y = some o) : (∃ z, k = .bool true ∧ y = some z ∧ o = some z) ∨ (k = .bool false ∧ o = none) := by
  unfold condD at h
  split at h
  · obtain ⟨z, rfl, rfl⟩ := Option.map_eq_some_iff.mp h
    exact .inl ⟨z, rfl, rfl, rfl⟩
  · cases h; exact .inr ⟨rfl, rfl⟩
  · cases h
theorem drop_cons {α : Type} {l : List α} {i : Nat} (h : i < l.length) : l.drop i = l[i] :: l.drop (i + 1) := List.drop_eq_getElem_cons h
theorem lc_reads {K : PySem.W.Frag} {H0 H : Hp} {σ : L2.St} {ρ : Rho} {tg : Tgt} {fi : Evls} {fc fe : Evl} {Q : VK} {rs : List PyData} (r : RelEnv K H0 H σ ρ) (hz : ∀ ds, fi ρ = some ds → ds.length ≤ sizeLine) (he : lcF tg fi fc fe ρ = some (.list rs))
    (q : ∀ a vs H', Same H H' → H a = none → H' a = some (.lst vs) → HasAll K H' vs rs → Q (.ref a) H') : tLc (tI true K H0 fi) (gD K tg) (tT K H0 fc) (tE K H0 fe) tg.slots σ H Q := by
  unfold lcF at he
  obtain ⟨ds, hi, he⟩ := bs he
  obtain ⟨rs', hl, e2⟩ := Option.map_eq_some_iff.mp he
  cases e2
  have hds := hz ds hi
  refine ⟨ρ, ds, r, hi, fun J H1 G s1 w g0 kp D hD => ?_⟩
  refine ⟨fun i m H2 => m = ds.length - i ∧ i ≤ ds.length ∧ ∃ acc ys zs, Same H1 H2 ∧ H2 D = some (.lst acc) ∧ HasAll K H2 acc ys ∧ lcRun (fun d => (bindT ρ tg d).bind fun ρ' => (fc ρ').bind fun k => condD k (fe ρ')) (ds.drop i) = some zs ∧ ys ++ zs = rs ∧ acc.length ≤ i,
    ⟨_, rfl, Nat.zero_le _, [], [], rs, same_upd hD _, upd_same, .nil, by simpa using hl, rfl, Nat.le_refl _⟩, ?_⟩
  rintro i m H2 ⟨rfl, hi2, acc, ys, zs, s2, hacc, hys, hrun, hcat, hlen⟩
  have gG : G H2 := kp H1 H2 s2 g0
  by_cases hlt : i < ds.length
  · refine .inr ⟨w.go i H2 hlt gG, fun H' => (i + 1 ≤ ds.length ∧ ∃ acc ys zs, Same H1 H' ∧ H' D = some (.lst acc) ∧ HasAll K H' acc ys ∧ lcRun (fun d => (bindT ρ tg d).bind fun ρ' => (fc ρ').bind fun k => condD k (fe ρ')) (ds.drop (i + 1)) = some zs ∧ ys ++ zs = rs ∧ acc.length ≤ i + 1),
      fun H' hN => ⟨ds.length - (i + 1), by omega, rfl, hN.1, hN.2⟩, fun x H3 hy => ?_⟩
    obtain ⟨s3, hx⟩ := w.yld i H2 x H3 ds[i] gG hy (by simp [hlt])
    rw [drop_cons hlt] at hrun
    unfold lcRun at hrun
    obtain ⟨o, ho, hrun⟩ := bs hrun
    obtain ⟨zr, hzr, hzs⟩ := Option.map_eq_some_iff.mp hrun
    obtain ⟨ρ', hb, ho⟩ := bs ho
    obtain ⟨kk, hk, ho⟩ := bs ho
    have r3 : RelEnv K H0 H3 (wipe σ tg.slots) (wipeR ρ tg.slots) := (((r.mono s1).mono s2).mono s3).wipe _
    refine gD_run r3 hx (by rw [bind_wiped]; exact hb) fun σ' r' hw => ⟨by rw [hw, wipe_wipe], ?_⟩
    rcases condD_some ho with ⟨z, rfl, hz', rfl⟩ | ⟨rfl, rfl⟩
    · refine ⟨ρ', true, r', hk, fun H4 s4 => iteT ⟨ρ', z, r'.mono s4, hz', fun v H5 s5 h5 => ?_⟩⟩
      have s25 : Same H2 H5 := (s3.trans s4).trans s5
      have hD5 : H5 D = some (.lst acc) := s25 _ _ hacc
      have ex5 : Ext H5 (upd H5 D (.lst (acc ++ [v]))) := ⟨fun b xs z => by rw [upd_ne (by intro e; rw [e, hD5] at z; cases z)]; exact z, fun b o u z => by rw [upd_ne (by intro e; rw [e, hD5] at z; cases z)]; exact z⟩
      refine ⟨acc, hD5, by omega, hlt, acc ++ [v], ys ++ [z], zr, ?_, upd_same, ?_, hzr, ?_, by simp; omega⟩
      · intro b o z
        rw [upd_ne (ne_of_none z hD)]
        exact s25 _ _ (s2 _ _ z)
      · exact ((hys.ext (same_ext s25)).append (.one h5)).ext ex5
      · rw [← hcat, ← hzs]
        simp
    · refine ⟨ρ', false, r', hk, fun H4 s4 => iteF ?_⟩
      have s24 : Same H2 H4 := s3.trans s4
      refine ⟨hlt, acc, ys, zr, s2.trans s24, s24 _ _ hacc, hys.ext (same_ext s24), hzr, ?_, by omega⟩
      rw [← hcat, ← hzs]
  · have e : i = ds.length := by omega
    subst e
    rw [List.drop_length] at hrun
    cases hrun
    rw [List.append_nil] at hcat
    subst hcat
    exact .inl ⟨w.stop H2 gG, q D acc H2 (s1.trans s2) (s1.free hD) hacc hys⟩
section
variable {X : Cx} {H0 : Hp} {pos : Pos}
theorem pe_lcF {elt tg iter : Expr} {ifs : List Expr} {scope : Scope} {own : List (Str × Nat)} {tgt : Tgt} {fi : Evls} {fc fe : Evl} (hc : X.calm = true) (hN : X.N.Nodup) (hi : PI X tg iter (tI true X.K H0 fi)) (hz : ∀ ρ ds, fi ρ = some ds → ds.length ≤ sizeLine) (ok : BlkOk X.N X.env.scope scope own) (hown : own.map (·.2) = tgt.slots)
    (hg : ∀ (s : Shared) (H : Hp) (C : Addr) (cl : List (Str × Addr)) (fp : List Addr), PG (X.blk s H scope (compEnvC scope cl C X.env) fp) tg (gD X.K tgt)) (ht : ∀ (s : Shared) (H : Hp) (C : Addr) (cl : List (Str × Addr)) (fp : List Addr), PTs (X.blk s H scope (compEnvC scope cl C X.env) fp) ifs (tT X.K H0 fc))
    (he : ∀ (s : Shared) (H : Hp) (C : Addr) (cl : List (Str × Addr)) (fp : List Addr), PE (X.blk s H scope (compEnvC scope cl C X.env) fp) elt (tE X.K H0 fe)) (hs : ∀ x, foldedSetIterable iter X.env x = pure x) :
    PE X (.ListComp elt [⟨tg, iter, ifs, 0⟩] scope pos) (tF X.K H0 (lcF tgt fi fc fe)) := by
  refine pe_mono (pe_lc hc hN hi ok hg ht he hs) fun σ H Q ⟨ρ, rs, r, hf, q⟩ => ?_
  rw [hown]
  exact lc_reads r (hz ρ) hf q
theorem lcF_list {tgt : Tgt} {fi : Evls} {fc fe : Evl} {ρ : Rho} {d : PyData} (h : lcF tgt fi fc fe ρ = some d) : ∃ ds, d = .list ds := by
  unfold lcF at h
  obtain ⟨_, _, h⟩ := bs h
  obtain ⟨z, _, rfl⟩ := Option.map_eq_some_iff.mp h
  exact ⟨z, rfl⟩
theorem ps_lcF {i : Nat} {y : Str} {py spos : Pos} {elt tg iter : Expr} {ifs : List Expr} {scope : Scope} {own : List (Str × Nat)} {tgt : Tgt} {fi : Evls} {fc fe : Evl} (hc : X.calm = true) (hN : X.N.Nodup) (hy : X.N[i]? = some y) (hyl : X.env.scope.names.lookup y = some .local)
    (hsw : swapsWith (.ListComp elt [⟨tg, iter, ifs, 0⟩] scope pos) (some (.Name y py)) spos.line X.env = pure true) (hi : PI X tg iter (tI true X.K H0 fi)) (hz : ∀ ρ ds, fi ρ = some ds → ds.length ≤ sizeLine) (ok : BlkOk X.N X.env.scope scope own) (hown : own.map (·.2) = tgt.slots)
    (hg : ∀ (s : Shared) (H : Hp) (C : Addr) (cl : List (Str × Addr)) (fp : List Addr), PG (X.blk s H scope (compEnvC scope cl C X.env) fp) tg (gD X.K tgt)) (ht : ∀ (s : Shared) (H : Hp) (C : Addr) (cl : List (Str × Addr)) (fp : List Addr), PTs (X.blk s H scope (compEnvC scope cl C X.env) fp) ifs (tT X.K H0 fc))
    (he : ∀ (s : Shared) (H : Hp) (C : Addr) (cl : List (Str × Addr)) (fp : List Addr), PE (X.blk s H scope (compEnvC scope cl C X.env) fp) elt (tE X.K H0 fe)) (hs : ∀ x, foldedSetIterable iter X.env x = pure x) :
    PS X (.Assign [.Name y py] (.ListComp elt [⟨tg, iter, ifs, 0⟩] scope pos) spos) (tAsg (tF X.K H0 (lcF tgt fi fc fe)) (gName i)) := by
  refine ps_mono (ps_setLc hc hN hy hyl hsw hi ok hg ht he hs) fun D σ H ⟨ρ, rs, r, hf, q⟩ => ?_
  rw [hown]
  exact lc_reads r (hz ρ) hf q
end
end Lr
namespace Lr
open PySem PySem.Spec PyProof.Rows L2
abbrev Exl := Rho → Option Out
def PostS (K : PySem.W.Frag) (H0 : Hp) (D : Ends) (H : Hp) : Out → Prop
  | .nx ρ' => ∀ σ' H', Ext H H' → RelEnv K H0 H' σ' ρ' → D.nx σ' H'
  | .brk ρ' => ∀ σ' H', Ext H H' → RelEnv K H0 H' σ' ρ' → D.bk σ' H'
  | .cont ρ' => ∀ σ' H', Ext H H' → RelEnv K H0 H' σ' ρ' → D.ct σ' H'
  | .ret d => ∀ v H', Ext H H' → Same H0 H' → Has K H' v d → D.rt v H'
def tS (K : PySem.W.Frag) (H0 : Hp) (f : Exl) : TS := fun D σ H => ∃ ρ o, RelEnv K H0 H σ ρ ∧ f ρ = some o ∧ PostS K H0 D H o
theorem PostS.ext {K : PySem.W.Frag} {H0 H H1 : Hp} {D : Ends} {o : Out} (h : PostS K H0 D H o) (e : Ext H H1) : PostS K H0 D H1 o := by
  cases o with
  | nx ρ => exact fun σ' H' e' r => h σ' H' (e.trans e') r
  | brk ρ => exact fun σ' H' e' r => h σ' H' (e.trans e') r
  | cont ρ => exact fun σ' H' e' r => h σ' H' (e.trans e') r
  | ret d => exact fun v H' e' s z => h v H' (e.trans e') s z
/-- evaluated, the owner's list frozen if it is what is told -/
def tSeal (K : PySem.W.Frag) (H0 : Hp) (sl : Rho → Rho) (f : Evl) : TE := fun σ H Q => ∃ ρ d, RelEnv K H0 H σ ρ ∧ f (sl ρ) = some d ∧ ∀ v H', Ext H H' → RelEnv K H0 H' σ (sl ρ) → Has K H' v d → Q v H'
theorem pe_orT {X : Cx} {e : Expr} {t t' : TE} (h : PE X e t) (h' : PE X e t') : PE X e (fun σ H Q => t σ H Q ∨ t' σ H Q) := ⟨fun pins s σ H Q I q => q.elim (h.run pins s σ H Q I) (h'.run pins s σ H Q I)⟩
section
variable {X : Cx} {H0 : Hp} {e a b c tg : Expr} {f g k : Evl} {pos : Pos}
theorem pe_sealId (h : PE X e (tE X.K H0 f)) : PE X e (tSeal X.K H0 id f) :=
  pe_mono h fun σ H Q ⟨ρ, d, r, he, q⟩ => ⟨ρ, d, r, he, fun v H' s z => q v H' (same_ext s) (r.mono s) z⟩
theorem ownD_some {o : Option Slot} {xs : List PyData} (h : ownD o = some xs) : o = some (.own xs) := by
  unfold ownD at h
  split at h
  · cases h; rfl
  · cases h
theorem pe_sealVar {i : Nat} (h : PE X e (tVar i)) : PE X e (tSeal X.K H0 (fun ρ => sealE ρ (.var i)) fun ρ => readS false ρ i) := by
  refine pe_mono (pe_orT h (pe_freeze h)) fun σ H Q ⟨ρ, d, r, he, q⟩ => ?_
  have he : readS false (sealV ρ i (ownD ρ[i]?)) i = some d := he
  have q : ∀ (v : V) (H' : Hp), Ext H H' → RelEnv X.K H0 H' σ (sealV ρ i (ownD ρ[i]?)) → Has X.K H' v d → Q v H' := q
  cases hs : ownD ρ[i]? with
  | none =>
    rw [hs] at he q
    obtain ⟨v, h1, _, h2⟩ := r.read he
    exact .inl ⟨v, h1, q v H (Ext.refl _) r (h2 rfl)⟩
  | some xs =>
    rw [hs] at he q
    have hi := ownD_some hs
    obtain ⟨a, vs, h1, h2, h3, h4⟩ := r.slot i _ hi
    refine .inr ⟨_, h1, a, vs, rfl, h2, fun o => ?_⟩
    have r' := r.frozen (o := o) hi h1 h2 h3 h4
    obtain ⟨v, h5, _, h6⟩ := r'.read he
    rw [h1] at h5
    cases h5
    exact q _ _ (ext_freeze h2) r' (h6 rfl)
theorem ps_retD {sl : Rho → Rho} (h : PE X e (tSeal X.K H0 sl f)) : PS X (.Return (some e) pos) (tS X.K H0 fun ρ => (f (sl ρ)).bind fun d => some (.ret d)) := by
  refine ps_mono (ps_ret h) fun D σ H ⟨ρ, o, r, he, q⟩ => ?_
  obtain ⟨d, hd, he⟩ := bs he
  cases he
  exact ⟨ρ, d, r, hd, fun v H' ex r' z => q v H' ex r'.same z⟩
theorem ps_setD {sl : Rho → Rho} {i : Nat} {x : Str} {pos' : Pos} (hN : X.N.Nodup) (hi : X.N[i]? = some x) (hx : Loc X.env.scope x) (hf : X.fn x = true) (h : PE X e (tSeal X.K H0 sl f)) (hs : swapsWith e (some (.Name x pos')) pos.line X.env = pure false) :
    PS X (.Assign [.Name x pos'] e pos) (tS X.K H0 fun ρ => (f (sl ρ)).bind fun d => some (.nx ((sl ρ).set i (.val d)))) := by
  refine ps_mono (ps_set hN hi hx h hs (.inl hf)) fun D σ H ⟨ρ, o, r, he, q⟩ => ?_
  obtain ⟨d, hd, he⟩ := bs he
  cases he
  exact ⟨ρ, d, r, hd, fun v H' ex r' z => q _ H' ex (r'.setVal i z)⟩
theorem RelEnv.newOwn {K : PySem.W.Frag} {H0 H H' : Hp} {σ : L2.St} {ρ : Rho} {a : Addr} {vs : List V} {xs : List PyData} (r : RelEnv K H0 H σ ρ) (i : Nat) (s : Same H H') (hn : H a = none) (ha : H' a = some (.lst vs)) (t : HasAll K H' vs xs) : RelEnv K H0 H' (σ.set i (some (.ref a))) (ρ.set i (.own xs)) := by
  refine (r.mono s).setOwn i ha t (r.same.free hn) fun j sl _ hj ho hs => ?_
  obtain ⟨u, hu⟩ := r.tracked hj ho hs
  rw [hn] at hu
  cases hu
theorem listOf_some {d : PyData} {ds : List PyData} (h : listOf d = some ds) : d = .list ds := by
  unfold listOf at h
  split at h
  · cases h; rfl
  · cases h
/-- name = a new list, kept to be written -/
theorem ps_ownD {i : Nat} {st : Stmt} (h : PS X st (tAsg (tF X.K H0 f) (gName i))) : PS X st (tS X.K H0 fun ρ => (f ρ).bind fun d => (listOf d).bind fun ds => some (.nx (ρ.set i (.own ds)))) := by
  refine ps_mono h fun D σ H ⟨ρ, o, r, he, q⟩ => ?_
  obtain ⟨d, hd, he⟩ := bs he
  obtain ⟨ds, hl, he⟩ := bs he
  cases he
  rw [listOf_some hl] at hd
  exact ⟨ρ, ds, r, hd, fun a vs H' s hn ha t => q _ H' (same_ext s) (r.newOwn i s hn ha t)⟩
theorem ps_setF {i : Nat} {x : Str} {pos' : Pos} (hN : X.N.Nodup) (hi : X.N[i]? = some x) (hx : Loc X.env.scope x) (hf : X.fn x = true) (h : PE X e (tF X.K H0 f)) (hs : swapsWith e (some (.Name x pos')) pos.line X.env = pure false) :
    PS X (.Assign [.Name x pos'] e pos) (tAsg (tF X.K H0 f) (gName i)) := ps_set hN hi hx h hs (.inl hf)
theorem sp_freeze {pins : List (Addr × Obj)} {D : Ends} {fl : Flow} {s : Shared} (h : SP X pins { D with nx := fun σ H => ∃ a xs, H a = some (.lst xs) ∧ ∀ o, D.nx σ (upd H a (.frz o (.lst xs))) } fl s) : SP X pins D fl s := by
  cases fl with
  | next =>
    obtain ⟨σ, H, I, a, xs, ha, q⟩ := h
    obtain ⟨o, I'⟩ := freeze I ha
    exact ⟨σ, _, I', q o⟩
  | brk => exact h
  | cont => exact h
  | ret u => exact h
/-- name = a new list, never written again -/
theorem ps_frzD {i : Nat} {st : Stmt} (h : PS X st (tAsg (tF X.K H0 f) (gName i))) : PS X st (tS X.K H0 fun ρ => (f ρ).bind fun d => (listOf d).bind fun ds => some (.nx (ρ.set i (.val (.list ds))))) := by
  refine ⟨fun pins s σ H D I ⟨ρ, o, r, he, q⟩ => ?_⟩
  obtain ⟨d, hd, he⟩ := bs he
  obtain ⟨ds, hl, he⟩ := bs he
  cases he
  rw [listOf_some hl] at hd
  refine thn (h.run pins s σ H { D with nx := fun σ H => ∃ a xs, H a = some (.lst xs) ∧ ∀ o, D.nx σ (upd H a (.frz o (.lst xs))) } I ⟨ρ, ds, r, hd, fun a vs H' sm hn ha t => ⟨a, vs, ha, fun o => ?_⟩⟩) fun _ _ z => sp_freeze z
  have ex := ext_freeze (o := o) ha
  refine q _ _ ((same_ext sm).trans ex) ?_
  have r' : RelEnv X.K H0 (upd H' a (.frz o (.lst vs))) σ ρ := r.mono (same_frz sm hn)
  exact r'.setVal i (.lst ⟨o, upd_same⟩ (t.ext ex))
theorem ps_setTD {is : List Nat} {ts : List Expr} {n : Nat} {tpos : Pos} (he : PE X e (tE X.K H0 f)) (hg : PG X (.Tuple ts n tpos) (gD X.K (.tup is))) (hs : swapsWithSole [.Tuple ts n tpos] e pos.line X.env = pure false) (hw : swappedStores [.Tuple ts n tpos] e X.env = pure none) :
    PS X (.Assign [.Tuple ts n tpos] e pos) (tS X.K H0 fun ρ => (f ρ).bind fun d => (bindT ρ (.tup is) d).bind fun ρ' => some (.nx ρ')) := by
  refine ps_mono (ps_asg he hg hs hw rfl) fun D σ H ⟨ρ, o, r, hf, q⟩ => ?_
  obtain ⟨d, hd, hf⟩ := bs hf
  obtain ⟨ρ', hb, hf⟩ := bs hf
  cases hf
  exact ⟨ρ, d, r, hd, fun v H' s z => gD_run (r.mono s) z hb fun σ' r' _ => q σ' H' (same_ext s) r'⟩
/-! ### append, extend -/
theorem RelEnv.grown {K : PySem.W.Frag} {H0 H : Hp} {σ : L2.St} {ρ : Rho} {i : Nat} {a : Addr} {vs ws : List V} {xs ys : List PyData} (r : RelEnv K H0 H σ ρ) (hi : ρ[i]? = some (.own xs)) (hs : σ[i]? = some (some (.ref a))) (ha : H a = some (.lst vs)) (h0 : H0 a = none) (t : HasAll K H ws ys) :
    Ext H (upd H a (.lst ws)) ∧ RelEnv K H0 (upd H a (.lst ws)) σ (ρ.set i (.own ys)) := by
  have ex : Ext H (upd H a (.lst ws)) := ⟨fun b us q => by rw [upd_ne (by intro z; rw [z, ha] at q; cases q)]; exact q, fun b o u q => by rw [upd_ne (by intro z; rw [z, ha] at q; cases q)]; exact q⟩
  refine ⟨ex, ⟨fun b o q => ?_, by rw [List.length_set]; exact r.len, fun j s hj => ?_, fun j l s t' b hj hl oj ol sj sl => ?_⟩⟩
  · rw [upd_ne (ne_of_none q h0)]; exact r.same b o q
  · by_cases e : i = j
    · subst e
      obtain ⟨_, rfl⟩ := get_set_eq hj
      exact ⟨a, ws, hs, upd_same, t.ext ex, h0⟩
    · rw [get_set_ne e] at hj
      have q := r.slot j s hj
      cases s with
      | none => trivial
      | val d => obtain ⟨v, h1, h2⟩ := q; exact ⟨v, h1, h2.ext ex⟩
      | own zs =>
        obtain ⟨b, us, h1, h2, h3, h4⟩ := q
        have ne : b ≠ a := fun z => by
          subst z
          exact e (r.disj i j _ _ b hi hj rfl rfl hs h1)
        exact ⟨b, us, h1, by rw [upd_ne ne]; exact h2, h3.ext ex, h4⟩
      | keys ks => exact q
  · by_cases e : i = j
    · subst e
      by_cases e2 : i = l
      · exact e2
      · rw [get_set_ne e2] at hl
        exact r.disj i l _ t' b hi hl rfl ol sj sl
    · rw [get_set_ne e] at hj
      by_cases e2 : i = l
      · subst e2
        exact r.disj j i s _ b hj hi oj rfl sj sl
      · rw [get_set_ne e2] at hl
        exact r.disj j l s t' b hj hl oj ol sj sl
theorem ps_appendD {i : Nat} {x : Str} {p apos pos1 pos2 : Pos} {n : Str} (hn : n = "append") (hx : PE X (.Name x p) (tVar i)) (he : PE X e (tE X.K H0 f)) (h1 : plainArg e = true) (h2 : (apos.endLine == pos1.line) = true) :
    PS X (.Expr (.Call (.Attribute (.Name x p) n apos) [e] [] pos1) pos2) (tS X.K H0 fun ρ => (ownD ρ[i]?).bind fun xs => (f ρ).bind fun d => if szOk (xs.length + 1) then some (.nx (ρ.set i (.own (xs ++ [d])))) else none) := by
  subst hn
  have hfew : ((backTo pos1 (starEach [e] X.env)).all (fun x => !x.1) && (backToKw pos1 (keywordEach [] X.env)).all (fun x => x.1.isSome) && decide (([e] : List Expr).length + ([] : List Keyword).length + (if ([] : List Keyword).isEmpty then 0 else 1) < 30)) = true := by
    rw [star_cons h1]; rfl
  refine ps_mono (ps_expr (pe_bm PySem.F.plainAttrs_list PySem.F.slot_list_append PySem.F.type_list_append mt_append hx (pa_cons he pa_nil (star_cons h1)) rfl hfew h2 (star_cons h1) rfl) rfl) fun D σ H ⟨ρ, o, r, hf, q⟩ => ?_
  obtain ⟨xs, ho, hf⟩ := bs hf
  obtain ⟨d, hd, hf⟩ := bs hf
  split at hf <;> first | (cases hf; done) | skip
  rename_i hz
  cases hf
  have hi := ownD_some ho
  obtain ⟨a, vs, h3, h4, h5, h6⟩ := r.slot i _ hi
  refine ⟨_, h3, .inl ⟨rfl, vs, rd_sq (.inl h4)⟩, ρ, d, r, hd, fun v H1 s1 z => ?_⟩
  have h4' := s1 _ _ h4
  have lz := h5.length
  have hz' := szOk_le hz
  refine ⟨a, vs, v, rfl, rfl, h4', by omega, ?_⟩
  obtain ⟨ex, r2⟩ := (r.mono s1).grown hi h3 h4' h6 ((h5.ext (same_ext s1)).append (.one z))
  exact q σ _ ((same_ext s1).trans ex) r2
theorem ps_extendD {i : Nat} {x : Str} {p apos pos1 pos2 : Pos} {n : Str} (hn : n = "extend") (hx : PE X (.Name x p) (tVar i)) (he : PE X e (tE X.K H0 f)) (h1 : plainArg e = true) (h2 : (apos.endLine == pos1.line) = true) :
    PS X (.Expr (.Call (.Attribute (.Name x p) n apos) [e] [] pos1) pos2) (tS X.K H0 fun ρ => (ownD ρ[i]?).bind fun xs => (f ρ).bind fun d => (listOf d).bind fun ds => if szOk (xs.length + ds.length) then some (.nx (ρ.set i (.own (xs ++ ds)))) else none) := by
  subst hn
  have hfew : ((backTo pos1 (starEach [e] X.env)).all (fun x => !x.1) && (backToKw pos1 (keywordEach [] X.env)).all (fun x => x.1.isSome) && decide (([e] : List Expr).length + ([] : List Keyword).length + (if ([] : List Keyword).isEmpty then 0 else 1) < 30)) = true := by
    rw [star_cons h1]; rfl
  refine ps_mono (ps_expr (pe_bm PySem.F.plainAttrs_list PySem.F.slot_list_extend PySem.F.type_list_extend mt_extR hx (pa_cons he pa_nil (star_cons h1)) rfl hfew h2 (star_cons h1) rfl) rfl) fun D σ H ⟨ρ, o, r, hf, q⟩ => ?_
  obtain ⟨xs, ho, hf⟩ := bs hf
  obtain ⟨d, hd, hf⟩ := bs hf
  obtain ⟨ds, hl, hf⟩ := bs hf
  split at hf <;> first | (cases hf; done) | skip
  rename_i hz
  cases hf
  have hi := ownD_some ho
  obtain ⟨a, vs, h3, h4, h5, h6⟩ := r.slot i _ hi
  refine ⟨_, h3, .inl ⟨rfl, vs, rd_sq (.inl h4)⟩, ρ, d, r, hd, fun v H1 s1 z => ?_⟩
  rw [listOf_some hl] at z
  obtain ⟨b', ws, rfl, rb, tb⟩ := z.r.lstE
  have h4' := s1 _ _ h4
  have lz := h5.length
  have lz2 := tb.length
  have hz' := szOk_le hz
  refine ⟨a, b', vs, ws, rfl, rfl, h4', rb, by omega, ?_⟩
  obtain ⟨ex, r2⟩ := (r.mono s1).grown hi h3 h4' h6 ((h5.ext (same_ext s1)).append tb)
  exact q σ _ ((same_ext s1).trans ex) r2
/-! ### blocks -/
theorem pss_nilD : PSs X [] (tS X.K H0 fun ρ => some (.nx ρ)) := pss_mono pss_nil fun D σ H ⟨ρ, o, r, he, q⟩ => by cases he; exact q σ H (Ext.refl _) r
theorem pss_consD {st : Stmt} {sts : List Stmt} {f g : Exl} (h1 : PS X st (tS X.K H0 f)) (h2 : PSs X sts (tS X.K H0 g)) : PSs X (st :: sts) (tS X.K H0 fun ρ => (f ρ).bind (seqD g)) := by
  refine pss_mono (pss_cons h1 h2) fun D σ H ⟨ρ, o, r, he, q⟩ => ?_
  obtain ⟨o1, h3, he⟩ := bs he
  refine ⟨ρ, o1, r, h3, ?_⟩
  cases o1 with
  | nx ρ' => exact fun σ' H' ex r' => ⟨ρ', o, r', he, q.ext ex⟩
  | brk ρ' => cases he; exact q
  | cont ρ' => cases he; exact q
  | ret d => cases he; exact q
theorem ifD_some {x y : Option Out} {k : PyData} {o : Out} (h : ifD x y k = some o) : (k = .bool true ∧ x = some o) ∨ (k = .bool false ∧ y = some o) := by
  unfold ifD at h
  split at h
  · exact .inl ⟨rfl, h⟩
  · exact .inr ⟨rfl, h⟩
  · cases h
theorem ps_ifD {co : Expr} {as bs' : List Stmt} {fc : Evl} {f g : Exl} (hc : PT X co (tT X.K H0 fc)) (ha : PSs X as (tS X.K H0 f)) (hb : PSs X bs' (tS X.K H0 g)) : PS X (.If co as bs' pos) (tS X.K H0 fun ρ => (fc ρ).bind (ifD (f ρ) (g ρ))) := by
  refine ps_mono (ps_if hc ha hb) fun D σ H ⟨ρ, o, r, he, q⟩ => ?_
  obtain ⟨k, hk, he⟩ := bs he
  rcases ifD_some he with ⟨rfl, h⟩ | ⟨rfl, h⟩
  · exact ⟨ρ, true, r, hk, fun H' s => iteT ⟨ρ, o, r.mono s, h, q.ext (same_ext s)⟩⟩
  · exact ⟨ρ, false, r, hk, fun H' s => iteF ⟨ρ, o, r.mono s, h, q.ext (same_ext s)⟩⟩
theorem ps_passD : PS X (.Pass pos) (tS X.K H0 fun ρ => some (.nx ρ)) := ps_mono ps_pass fun D σ H ⟨ρ, o, r, he, q⟩ => by cases he; exact q σ H (Ext.refl _) r
theorem ps_brkD : PS X (.Break pos) (tS X.K H0 fun ρ => some (.brk ρ)) := ps_mono ps_break fun D σ H ⟨ρ, o, r, he, q⟩ => by cases he; exact q σ H (Ext.refl _) r
theorem ps_contD : PS X (.Continue pos) (tS X.K H0 fun ρ => some (.cont ρ)) := ps_mono ps_continue fun D σ H ⟨ρ, o, r, he, q⟩ => by cases he; exact q σ H (Ext.refl _) r
/-! ### loops -/
def tIS (K : PySem.W.Frag) (H0 : Hp) (sl : Rho → Rho) (f : Evls) : TI := fun σ H R => ∃ ρ ds, RelEnv K H0 H σ ρ ∧ f (sl ρ) = some ds ∧ ∀ J H' G, Ext H H' → RelEnv K H0 H' σ (sl ρ) → WalkD K J ds G → G H' → Keeps false G → R J H'
theorem pi_sealId {fi : Evls} (h : PI X tg e (tI false X.K H0 fi)) : PI X tg e (tIS X.K H0 id fi) :=
  pi_mono h fun σ H R ⟨ρ, ds, r, hf, q⟩ => ⟨ρ, ds, r, hf, fun J H' G s w g kp => q J H' G (same_ext s) (r.mono s) w g kp⟩
theorem pi_seqS {sl : Rho → Rho} (he : PE X e (tSeal X.K H0 sl f)) : PI X tg e (tIS X.K H0 sl fun ρ => (f ρ).bind seqItems) := by
  refine ⟨fun pins s σ H R I ⟨ρ, ds, r, hf, q⟩ => ?_⟩
  obtain ⟨d, hd, hs⟩ := bs hf
  unfold seqItems at hs
  split at hs <;> first | (cases hs; done) | skip
  · split at hs <;> first | (cases hs; done) | skip
    cases hs
    refine (pi_list (tg := tg) he).run pins s σ H R I ⟨ρ, _, r, hd, fun v H' ex r' h => ?_⟩
    obtain ⟨a', xs, rfl, hq, G, hG, g0, kp⟩ := keeps_list (m := false) h.r fun _ => h
    exact ⟨a', rfl, ⟨xs, hq⟩, q _ H' G ex r' (walk_list.weaken hG) g0 kp⟩
  · split at hs <;> first | (cases hs; done) | skip
    cases hs
    refine (pi_tup (tg := tg) he).run pins s σ H R I ⟨ρ, _, r, hd, fun v H' ex r' h => ?_⟩
    obtain ⟨a', xs, rfl, hq, t⟩ := h.r.tupE
    exact ⟨a', rfl, ⟨xs, hq.sq⟩, q _ H' _ ex r' walk_tup ⟨hq, t⟩ fun H1 H2 e ⟨z1, z2⟩ => ⟨e.tp z1, z2.ext e⟩⟩
  · split at hs <;> first | (cases hs; done) | skip
    cases hs
    refine (pi_str (tg := tg) he).run pins s σ H R I ⟨ρ, _, r, hd, fun v H' ex r' h => ?_⟩
    obtain rfl := h.r.strE
    exact ⟨_, rfl, q _ H' _ ex r' walk_str trivial keeps_true⟩
theorem ps_forD {sl : Rho → Rho} {iter : Expr} {body : List Stmt} {tgt : Tgt} {fi : Evls} {fb : Exl} (hp : PassesOwn (model X.prog X.w) X.A X.env X.xe) (hc : X.calm = true) (hi : PI X tg iter (tIS X.K H0 sl fi)) (hg : PG X tg (gD X.K tgt)) (hb : PSs X body (tS X.K H0 fb)) (hs : ∀ x, foldedSetIterable iter X.env x = pure x) :
    PS X (.For tg iter body [] pos) (tS X.K H0 fun ρ => (fi (sl ρ)).bind fun ds => forRun tgt fb ds (sl ρ)) := by
  refine ps_mono (ps_for hp hc hi hg hb hs) fun D σ H ⟨ρ, o, r, he, q⟩ => ?_
  obtain ⟨ds, hd, he⟩ := bs he
  refine ⟨ρ, ds, r, hd, fun J H1 G ex1 r1 w g0 kp => ?_⟩
  refine ⟨fun i m σ2 H2 => m = ds.length - i ∧ i ≤ ds.length ∧ ∃ ρ2, RelEnv X.K H0 H2 σ2 ρ2 ∧ Ext H1 H2 ∧ forRun tgt fb (ds.drop i) ρ2 = some o, ⟨_, rfl, Nat.zero_le _, sl ρ, r1, Ext.refl _, by simpa using he⟩, ?_⟩
  rintro i m σ2 H2 ⟨rfl, hi2, ρ2, r2, ex2, hrun⟩
  have gG : G H2 := kp H1 H2 ex2 g0
  by_cases hlt : i < ds.length
  · refine .inr ⟨w.go i H2 hlt gG, fun σ' H' => i + 1 ≤ ds.length ∧ ∃ ρ', RelEnv X.K H0 H' σ' ρ' ∧ Ext H1 H' ∧ forRun tgt fb (ds.drop (i + 1)) ρ' = some o, fun σ' H' hN => ⟨ds.length - (i + 1), by omega, rfl, hN.1, hN.2⟩, fun x H3 hy => ?_⟩
    obtain ⟨s3, hx⟩ := w.yld i H2 x H3 ds[i] gG hy (by simp [hlt])
    rw [drop_cons hlt] at hrun
    unfold forRun at hrun
    obtain ⟨ρ3, hb3, hrun⟩ := bs hrun
    obtain ⟨ob, hob, hrun⟩ := bs hrun
    refine gD_run (r2.mono s3) hx hb3 fun σ3 r3 _ => ⟨ρ3, ob, r3, hob, ?_⟩
    have ex3 : Ext H1 H3 := ex2.trans (same_ext s3)
    cases ob with
    | nx ρ4 => exact fun σ4 H4 ex4 r4 => ⟨hlt, ρ4, r4, ex3.trans ex4, hrun⟩
    | cont ρ4 => exact fun σ4 H4 ex4 r4 => ⟨hlt, ρ4, r4, ex3.trans ex4, hrun⟩
    | brk ρ4 =>
      cases hrun
      exact fun σ4 H4 ex4 r4 => q σ4 H4 ((ex1.trans ex3).trans ex4) r4
    | ret d =>
      cases hrun
      exact fun v H4 ex4 s4 z => q v H4 ((ex1.trans ex3).trans ex4) s4 z
  · have e : i = ds.length := by omega
    subst e
    rw [List.drop_length] at hrun
    cases hrun
    exact .inl ⟨w.stop H2 gG, q σ2 H2 (ex1.trans ex2) r2⟩
theorem ps_whileD {co : Expr} {body : List Stmt} {fc : Evl} {fb : Exl} {n : Nat} (hp : PassesOwn (model X.prog X.w) X.A X.env X.xe) (hc : PT X co (tT X.K H0 fc)) (hb : PSs X body (tS X.K H0 fb)) :
    PS X (.While co body [] pos) (tS X.K H0 fun ρ => whileRun fc fb n ρ) := by
  refine ps_mono (ps_while hp hc hb) fun D σ H ⟨ρ, o, r, he, q⟩ => ?_
  refine ⟨fun m σ2 H2 => ∃ ρ2, RelEnv X.K H0 H2 σ2 ρ2 ∧ Ext H H2 ∧ whileRun fc fb m ρ2 = some o, ⟨n, ρ, r, Ext.refl _, he⟩, ?_⟩
  rintro m σ2 H2 ⟨ρ2, r2, ex2, hrun⟩
  cases m with
  | zero => cases hrun
  | succ m =>
    unfold whileRun at hrun
    obtain ⟨k, hk, hrun⟩ := bs hrun
    rcases ifD_some hrun with ⟨rfl, h⟩ | ⟨rfl, h⟩
    · refine ⟨ρ2, true, r2, hk, fun H3 s3 => iteT ?_⟩
      obtain ⟨ob, hob, h⟩ := bs h
      refine ⟨fun σ' H' => ∃ ρ', RelEnv X.K H0 H' σ' ρ' ∧ Ext H H' ∧ whileRun fc fb m ρ' = some o, fun σ' H' hN => ⟨m, Nat.lt_succ_self _, hN⟩, ρ2, ob, r2.mono s3, hob, ?_⟩
      have ex3 : Ext H H3 := ex2.trans (same_ext s3)
      cases ob with
      | nx ρ4 => exact fun σ4 H4 ex4 r4 => ⟨ρ4, r4, ex3.trans ex4, h⟩
      | cont ρ4 => exact fun σ4 H4 ex4 r4 => ⟨ρ4, r4, ex3.trans ex4, h⟩
      | brk ρ4 =>
        cases h
        exact fun σ4 H4 ex4 r4 => q σ4 H4 (ex3.trans ex4) r4
      | ret d =>
        cases h
        exact fun v H4 ex4 s4 z => q v H4 (ex3.trans ex4) s4 z
    · cases h
      exact ⟨ρ2, false, r2, hk, fun H3 s3 => iteF (q σ2 H3 (ex2.trans (same_ext s3)) (r2.mono s3))⟩
end
end Lr
namespace Lr
open PySem PySem.Spec PyProof.Rows L2
/-! ### a, b = x, y -/
def blkK (sc : Scope) : ScopeKind := if sc.kind.isAnnotationScope then .function else sc.kind
def parV (vs : List Expr) : Bool := vs.all plainArg && (!(vs.all (foldedForSure 8)) && !(vs.all (constantsAlone 8)))
def par2 (sc : Scope) (x y : Str) (p q : Pos) (vs : List Expr) : Bool :=
  decide (blkK sc = .function) && (decide (sc.names.lookup x = some .local) && (decide (sc.names.lookup y = some .local) && ((q.line == p.line) && (decide (x ≠ y) && (decide (vs.length = 2) && parV vs)))))
def par3 (sc : Scope) (x y z : Str) (p q r : Pos) (vs : List Expr) : Bool :=
  decide (blkK sc = .function) && (decide (sc.names.lookup x = some .local) && (decide (sc.names.lookup y = some .local) && (decide (sc.names.lookup z = some .local) && ((q.line == p.line) && ((r.line == p.line) && (decide (x ≠ y) && (decide (x ≠ z) && (decide (y ≠ z) && (decide (vs.length = 3) && parV vs)))))))))
theorem sw_two {env : Env} {x y : Str} {p q tp p2 : Pos} {kt k2} {vs : List Expr} (h : par2 env.scope x y p q vs = true) : swappedStores [.Tuple [.Name x p, .Name y q] kt tp] (.Tuple vs k2 p2) env = pure (some [x, y]) := by
  unfold par2 parV at h
  simp only [Bool.and_eq_true, decide_eq_true_eq, Bool.not_eq_true'] at h
  obtain ⟨h1, h2, h3, h4, h5, h6, h7, h8, h9⟩ := h
  have b : env.blockKind = .function := h1
  have k1 : env.kindOf x = some .local := h2
  have k2' : env.kindOf y = some .local := h3
  have h4 : q.line = p.line := by simpa using h4
  unfold swappedStores
  simp only [List.length_cons, List.length_nil, h6, b]
  simp only [List.filterMap_cons, List.filterMap_nil, Expr.pos, List.head?_cons, Option.map_some, Option.getD_some, k1, k2', h4, h8, h9]
  simp [List.eraseDups_cons, h5, Ne.symm h5]
  rintro v hv
  cases v <;> simp
  exact absurd (List.all_eq_true.mp h7 _ hv) (by simp [plainArg])
theorem sw_three {env : Env} {x y z : Str} {p q r tp p2 : Pos} {kt k2} {vs : List Expr} (h : par3 env.scope x y z p q r vs = true) : swappedStores [.Tuple [.Name x p, .Name y q, .Name z r] kt tp] (.Tuple vs k2 p2) env = pure (some [x, y, z]) := by
  unfold par3 parV at h
  simp only [Bool.and_eq_true, decide_eq_true_eq, Bool.not_eq_true'] at h
  obtain ⟨h1, h2, h3, h3', h4, h4', h5, h51, h52, h6, h7, h8, h9⟩ := h
  have b : env.blockKind = .function := h1
  have k1 : env.kindOf x = some .local := h2
  have k2' : env.kindOf y = some .local := h3
  have k3' : env.kindOf z = some .local := h3'
  have h4 : q.line = p.line := by simpa using h4
  have h4' : r.line = p.line := by simpa using h4'
  unfold swappedStores
  simp only [List.length_cons, List.length_nil, h6, b]
  simp only [List.filterMap_cons, List.filterMap_nil, Expr.pos, List.head?_cons, Option.map_some, Option.getD_some, k1, k2', k3', h4, h4', h8, h9]
  simp [List.eraseDups_cons, h5, Ne.symm h5, h51, Ne.symm h51, h52, Ne.symm h52]
  rintro v hv
  cases v <;> simp
  exact absurd (List.all_eq_true.mp h7 _ hv) (by simp [plainArg])
section
variable {X : Cx} {H0 : Hp} {pos : Pos} {gs : Evls}
theorem ps_par2D {i j : Nat} {x y : Str} {px py pt p2 : Pos} {kt k2} {vs : List Expr} (hc : X.calm = true) (hN : X.N.Nodup) (hi : X.N[i]? = some x) (hj : X.N[j]? = some y) (ha : PA X vs (tAE X.K H0 gs)) (h : par2 X.env.scope x y px py vs = true) :
    PS X (.Assign [.Tuple [.Name x px, .Name y py] kt pt] (.Tuple vs k2 p2) pos) (tS X.K H0 fun ρ => (gs ρ).bind fun ds => if [i, j].length = ds.length then some (.nx (setAll ρ [i, j] ds)) else none) := by
  have hw := sw_two (kt := kt) (k2 := k2) (tp := pt) (p2 := p2) h
  unfold par2 at h
  simp only [Bool.and_eq_true, decide_eq_true_eq] at h
  obtain ⟨_, h2, h3, _, h5, h6, _⟩ := h
  have hij : i ≠ j := fun z => by subst z; rw [hi] at hj; cases hj; exact h5 rfl
  match vs, h6 with
  | [a, b], _ =>
  refine ps_mono (ps_par hc hN hi hj hij h2 h3 ha hw) fun D σ H ⟨ρ, o, r, hf, q⟩ => ?_
  obtain ⟨ds, hd, hf⟩ := bs hf
  split at hf <;> first | (cases hf; done) | skip
  rename_i hl
  cases hf
  refine ⟨ρ, ds, r, hd, fun vs H' sm t => ?_⟩
  match ds, hl, t with
  | [d, e], _, .cons t1 (.cons t2 .nil) => exact ⟨_, _, rfl, q _ H' (same_ext sm) (((r.mono sm).setVal i t1).setVal j t2)⟩
theorem ps_par3D {i j l : Nat} {x y z : Str} {px py pz pt p2 : Pos} {kt k2} {vs : List Expr} (hc : X.calm = true) (hN : X.N.Nodup) (hi : X.N[i]? = some x) (hj : X.N[j]? = some y) (hk : X.N[l]? = some z) (ha : PA X vs (tAE X.K H0 gs)) (h : par3 X.env.scope x y z px py pz vs = true) :
    PS X (.Assign [.Tuple [.Name x px, .Name y py, .Name z pz] kt pt] (.Tuple vs k2 p2) pos) (tS X.K H0 fun ρ => (gs ρ).bind fun ds => if [i, j, l].length = ds.length then some (.nx (setAll ρ [i, j, l] ds)) else none) := by
  have hw := sw_three (kt := kt) (k2 := k2) (tp := pt) (p2 := p2) h
  unfold par3 at h
  simp only [Bool.and_eq_true, decide_eq_true_eq] at h
  obtain ⟨_, h2, h3, h3', _, _, h5, h51, h52, h6, _⟩ := h
  have hij : i ≠ j := fun z => by subst z; rw [hi] at hj; cases hj; exact h5 rfl
  have hil : i ≠ l := fun z => by subst z; rw [hi] at hk; cases hk; exact h51 rfl
  have hjl : j ≠ l := fun z => by subst z; rw [hj] at hk; cases hk; exact h52 rfl
  match vs, h6 with
  | [a, b, c], _ =>
  refine ps_mono (ps_par3 hc hN hi hj hk hij hil hjl h2 h3 h3' ha hw) fun D σ H ⟨ρ, o, r, hf, q⟩ => ?_
  obtain ⟨ds, hd, hf⟩ := bs hf
  split at hf <;> first | (cases hf; done) | skip
  rename_i hl
  cases hf
  refine ⟨ρ, ds, r, hd, fun vs H' sm t => ?_⟩
  match ds, hl, t with
  | [d, e, f], _, .cons t1 (.cons t2 (.cons t3 .nil)) => exact ⟨_, _, _, rfl, q _ H' (same_ext sm) ((((r.mono sm).setVal i t1).setVal j t2).setVal l t3)⟩
end
end Lr
namespace Lr
open PySem PySem.Spec PyProof.Rows L2
/-! ### from the model's text to the small language -/
structure Tb where
  defs : List (Str × Nat)
  consts : List (Str × PyData)
  free : List Str
def slotOf : List Str → Str → Option Nat
  | [], _ => none
  | n :: ns, x => if n = x then some 0 else (slotOf ns x).map (· + 1)
theorem slotOf_get : ∀ {N : List Str} {x : Str} {i : Nat}, slotOf N x = some i → N[i]? = some x
  | [], _, _, h => by cases h
  | n :: ns, x, i, h => by
    unfold slotOf at h
    split at h
    · rename_i e
      cases h
      rw [e]; rfl
    · obtain ⟨j, hj, rfl⟩ := Option.map_eq_some_iff.mp h
      simpa using slotOf_get hj
def visB (sc : Scope) (x : Str) : Bool := match sc.names.lookup x with
  | some .local => true
  | some .cell => true
  | some .free => true
  | _ => false
def isLC (sc : Scope) (x : Str) : Bool := match sc.names.lookup x with
  | some .local => true
  | some .cell => true
  | _ => false
def glB (sc : Scope) (x : Str) : Bool := match sc.names.lookup x with
  | some .globalImplicit => true
  | _ => false
theorem visB_ok {sc : Scope} {x : Str} (h : visB sc x = true) : Vis sc x := by
  unfold visB at h
  split at h
  · rename_i e; exact .inl e
  · rename_i e; exact .inr (.inl e)
  · rename_i e; exact .inr (.inr e)
  · cases h
theorem isLC_ok {sc : Scope} {x : Str} (h : isLC sc x = true) : sc.names.lookup x = some .local ∨ sc.names.lookup x = some .cell := by
  unfold isLC at h
  split at h
  · rename_i e; exact .inl e
  · rename_i e; exact .inr e
  · cases h
theorem glB_ok {sc : Scope} {x : Str} (h : glB sc x = true) : sc.names.lookup x = some .globalImplicit := by
  unfold glB at h
  split at h
  · assumption
  · cases h
def okN (x : Str) : Bool := !(x == ("__debug__" : Str)) && !(x == ("__classdict__" : Str)) && !(x == ("__name__" : Str))
theorem okN_ok {x : Str} (h : okN x = true) : (x == ("__debug__" : Str)) = false ∧ (x == ("__classdict__" : Str)) = false ∧ x ≠ ("__name__" : Str) := by
  unfold okN at h
  simp only [Bool.and_eq_true, Bool.not_eq_true'] at h
  exact ⟨h.1.1, h.1.2, fun e => by rw [e] at h; simp at h⟩
def okE : Expr → Bool
  | .Starred _ _ => false
  | .Slice _ _ _ _ => false
  | .Set _ _ _ => false
  | .SetComp _ _ _ _ => false
  | .DictComp _ _ _ _ _ => false
  | _ => true
theorem okE_plain {e : Expr} (h : okE e = true) : plainArg e = true := by cases e <;> first | rfl | (cases h; done)
theorem okE_ix {e : Expr} (h : okE e = true) : PlainIx e := by
  intro o i
  cases e <;> first | rfl | (cases h; done)
theorem okE_mark {e : Expr} {op : CmpOp} (h : okE e = true) : behindInMarks op e = false := by cases e <;> first | rfl | (cases h; done)
theorem okE_fold {e : Expr} {env : Env} (h : okE e = true) (x : Value) : foldedSetIterable e env x = pure x := by cases e <;> first | rfl | (cases h; done)
def bopOf : Operator → Option Bop
  | .Add => some .add | .Sub => some .sub | .Mult => some .mul | .FloorDiv => some .fdiv | .Mod => some .mod | _ => none
def copOf : CmpOp → Cop
  | .Eq => .eq | .NotEq => .ne | .Lt => .lt | .LtE => .le | .Gt => .gt | .GtE => .ge | .In => .isin | .NotIn => .notin | .Is => .is_ | .IsNot => .isnot
theorem copM_of (op : CmpOp) : copM (copOf op) = op := by cases op <;> rfl
def constE : Const → Option PyData
  | .none => some .none
  | .bool b => some (.bool b)
  | .int i => some (.int i)
  | .str s => some (.str s)
  | _ => none
def compL (f : Expr → Option Ex) : List Expr → Option Exs
  | [] => some .nil
  | e :: es => (f e).bind fun a => (compL f es).bind fun r => some (.cons a r)
def compB (mk : Ex → Ex → Ex) (f : Expr → Option Ex) : List Expr → Option Ex
  | [] => none
  | [a] => f a
  | a :: r => (f a).bind fun x => (compB mk f r).bind fun y => some (mk x y)
def compO (f : Expr → Option Ex) : Option Expr → Option Exo
  | none => some .non
  | some e => (f e).bind fun a => some (.som a)
def dgOk (keys : List (Option Expr)) (values : List Expr) : Bool := decide (keys.length = values.length) && (!keys.isEmpty && decide (keys.length ≤ 15))
def compDs (f : Expr → Option Ex) (keys : List (Option Expr)) (values : List Expr) (i : Expr) : Option Ex :=
  if dgOk keys values then (compKs keys).bind fun ks => (compL f values).bind fun vs => (f i).bind fun k => some (.dget ks vs k .non) else none
def compSub (f : Expr → Option Ex) (a : Expr) : Expr → Option Ex
  | .Slice lo hi none _ => (f a).bind fun x => (compO f lo).bind fun l => (compO f hi).bind fun h => some (.slice x l h)
  | .Slice none none (some (.UnaryOp .USub (.Constant (.int 1) _ _) _)) _ => (f a).bind fun x => some (.rev x)
  | b => (f a).bind fun x => (f b).bind fun y => some (.idx x y)
def biName : Bi → Option (Str × Nat)
  | .len => some ("len", 1) | .tuple => some ("tuple", 1) | .list => some ("list", 1) | .int => some ("int", 1) | .sum => some ("sum", 1) | .any => some ("any", 1) | .all => some ("all", 1)
  | .min1 => some ("min", 1) | .max1 => some ("max", 1) | .max2 => some ("max", 2) | .abs => some ("abs", 1) | .sorted => some ("sorted", 1) | _ => none
def allBi : List Bi := [.len, .tuple, .list, .int, .sum, .any, .all, .min1, .max1, .max2, .abs, .sorted]
def tyOf (x : Str) : Option Ty := [Ty.str, .tuple, .int, .bool, .list].find? fun t => decide (Str.ofString (tyS t) = x)
def freeB (T : Tb) (sc : Scope) (x : Str) : Bool := glB sc x && (okN x && T.free.contains x)
/-- len(set(a)) -/
def compLenSet (T : Tb) (sc : Scope) (f : Expr → Option Ex) : List Expr → Option Ex
  | [.Call (.Name y _) [a] [] _] => if freeB T sc y && decide (y = ("set" : Str)) then (f a).bind fun z => some (.bi .lenSet (.cons z .nil)) else none
  | _ => none
def compCall (T : Tb) (sc : Scope) (f : Expr → Option Ex) (x : Str) (args : List Expr) : Option Ex :=
  match T.defs.lookup x with
  | some n => if glB sc x && (okN x && decide (args.length = n) && decide (0 < n)) then (compL f args).bind fun es => some (.call x es) else none
  | none =>
    if freeB T sc x then
      if x = ("isinstance" : Str) then (match args with
        | [a, .Name t _] => if freeB T sc t then (tyOf t).bind fun ty => (f a).bind fun y => some (.isi ty y) else none
        | _ => none)
      else if x = ("len" : Str) then (match compLenSet T sc f args with
        | some y => some y
        | none => (compL f args).bind fun es => if args.length = 1 then some (.bi .len es) else none)
      else match allBi.find? (fun b => decide (biName b = some (x, args.length))) with
        | some b => (compL f args).bind fun es => some (.bi b es)
        | none => none
    else none
def methBi (m : Str) : Option Bi := if m = ("join" : Str) then some .join else if m = ("index" : Str) then some .index else if m = ("split" : Str) then some .split else none
def compMeth (f : Expr → Option Ex) (o : Expr) (m : Str) (line1 line2 : Nat) (args : List Expr) : Option Ex :=
  (methBi m).bind fun k => match args with
    | [b] => if abOk o && (line1 == line2) then (f o).bind fun x => (f b).bind fun y => some (.bi k (.cons x (.cons y .nil))) else none
    | _ => none
def compDg (f : Expr → Option Ex) (keys : List (Option Expr)) (values : List Expr) (m : Str) (l1 l2 : Nat) (e e2 : Expr) : Option Ex :=
  if dgOk keys values && (decide (m = ("get" : Str)) && (l1 == l2)) then (compKs keys).bind fun ks => (compL f values).bind fun vs => (f e).bind fun k => (f e2).bind fun d => some (.dget ks vs k (.som d)) else none
def compNames (N : List Str) (sc : Scope) : List Expr → Option (List (Str × Nat))
  | [] => some []
  | .Name x _ :: r => if isLC sc x then (slotOf N x).bind fun i => (compNames N sc r).bind fun ps => some ((x, i) :: ps) else none
  | _ => none
def compTg (N : List Str) (sc : Scope) : Expr → Option (Tgt × List (Str × Nat))
  | .Name x _ => if isLC sc x then (slotOf N x).bind fun i => some (.name i, [(x, i)]) else none
  | .Tuple ts _ _ => (compNames N sc ts).bind fun ps => some (.tup (ps.map (·.2)), ps)
  | _ => none
def compRange (T : Tb) (sc : Scope) (f : Expr → Option Ex) : Expr → Option Itx
  | .Call (.Name x _) [a] [] _ => if freeB T sc x && decide (x = ("range" : Str)) then (f a).bind fun y => some (.range1 y) else none
  | .Call (.Name x _) [a, b] [] _ => if freeB T sc x && decide (x = ("range" : Str)) then (f a).bind fun y => (f b).bind fun z => some (.range2 y z) else none
  | _ => none
def compEn (T : Tb) (sc : Scope) (f : Expr → Option Ex) : Expr → Expr → Option Itx
  | .Tuple _ _ _, .Call (.Name x _) [a] [] _ => if freeB T sc x && decide (x = ("enumerate" : Str)) then (f a).bind fun y => some (.enum y) else none
  | .Tuple _ _ _, .Call (.Name x _) [a, b] [] _ => if freeB T sc x && decide (x = ("zip" : Str)) then (f a).bind fun y => (f b).bind fun z => some (.zip y z) else none
  | _, _ => none
def compIt (T : Tb) (sc : Scope) (f : Expr → Option Ex) (tg e : Expr) : Option Itx := match compRange T sc f e with
  | some i => some i
  | none => match compEn T sc f tg e with
    | some i => some i
    | none => (f e).bind fun y => some (.seq y)
def compIfs (f : Expr → Option Ex) : List Expr → Option Ex
  | [] => some (.lit (.bool true))
  | [c] => f c
  | _ => none
def compLc (N : List Str) (T : Tb) (sc : Scope) (f g : Expr → Option Ex) (elt tg iter : Expr) (ifs : List Expr) (scope : Scope) : Option Ex :=
  (compTg N scope tg).bind fun p => if blkC N sc scope p.2 then (compIt T sc f tg iter).bind fun it => (compIfs g ifs).bind fun co => (g elt).bind fun y => some (.lc y p.1 it co) else none
def compE (N : List Str) (T : Tb) : Nat → Scope → Expr → Option Ex
  | 0, _, _ => none
  | n + 1, sc, e => match e with
    | .Name x _ => if okN x then (if visB sc x then (slotOf N x).bind fun i => some (.var i) else if glB sc x then (T.consts.lookup x).bind fun _ => some (.glob x) else none) else none
    | .Constant c _ _ => (constE c).bind fun d => some (.lit d)
    | .Tuple es _ _ => (compL (compE N T n sc) es).bind fun es => some (.tup es)
    | .List es _ => (compL (compE N T n sc) es).bind fun es => some (.lst es)
    | .BinOp a op b _ => (bopOf op).bind fun o => (compE N T n sc a).bind fun x => (compE N T n sc b).bind fun y => some (.bin o x y)
    | .Compare a [op] [b] _ => (compE N T n sc a).bind fun x => (compE N T n sc b).bind fun y => some (.cmp (copOf op) x y)
    | .Compare a [op, op'] [b, c] _ => (compE N T n sc a).bind fun x => (compE N T n sc b).bind fun y => (compE N T n sc c).bind fun z => some (.chain (copOf op) (copOf op') x y z)
    | .BoolOp .And (a :: b :: r) _ => compB .and (compE N T n sc) (a :: b :: r)
    | .BoolOp .Or (a :: b :: r) _ => compB .or (compE N T n sc) (a :: b :: r)
    | .UnaryOp .Not a _ => (compE N T n sc a).bind fun x => some (.not x)
    | .UnaryOp .USub a _ => (compE N T n sc a).bind fun x => some (.neg x)
    | .Subscript (.Dict keys values _) i _ => compDs (compE N T n sc) keys values i
    | .Subscript a i _ => compSub (compE N T n sc) a i
    | .Call (.Name x _) args [] _ => compCall T sc (compE N T n sc) x args
    | .Call (.Attribute (.Dict keys values _) m apos) [e, e2] [] pos => compDg (compE N T n sc) keys values m apos.endLine pos.line e e2
    | .Call (.Attribute o m apos) args [] pos => compMeth (compE N T n sc) o m apos.endLine pos.line args
    | .ListComp elt [⟨tg, iter, ifs, 0⟩] scope _ => compLc N T sc (compE N T n sc) (compE N T n (relS scope sc)) elt tg iter ifs scope
    | _ => none
/-! statements -/
def swB (value : Expr) (t : Str) (tl : Nat) (sc : Scope) : Bool := match value with
  | .ListComp _ _ s p => (match sc.names.lookup t with
    | some .local => true
    | _ => false) && (tl == p.line) && !(s.names.any fun (n, k) => n == t && (k == .local || k == .cell))
  | _ => false
def isLcE : Expr → Bool
  | .ListComp _ _ _ _ => true
  | .SetComp _ _ _ _ => true
  | .DictComp _ _ _ _ _ => true
  | _ => false
def freshE : Ex → Bool
  | .lst _ => true
  | .bin .add _ _ => true
  | .lc _ _ _ _ => true
  | _ => false
def compSet (N : List Str) (sc : Scope) (mu : List Nat) (f : Expr → Option Ex) (x : Str) (e : Expr) : Option S :=
  if isLC sc x then (slotOf N x).bind fun i => (f e).bind fun y => if mu.contains i then (if freshE y then some (.setF i y) else none) else some (.set i y) else none
def isTupE : Expr → Bool
  | .Tuple _ _ _ => true
  | _ => false
def compPar (N : List Str) (sc : Scope) (f : Expr → Option Ex) (ts : List Expr) : Expr → Option S
  | .Tuple vs _ _ => (compL f vs).bind fun es => match ts with
    | [.Name x p, .Name y q] => if par2 sc x y p q vs then (slotOf N x).bind fun i => (slotOf N y).bind fun j => some (.setP [i, j] es) else none
    | [.Name x p, .Name y q, .Name z r] => if par3 sc x y z p q r vs then (slotOf N x).bind fun i => (slotOf N y).bind fun j => (slotOf N z).bind fun l => some (.setP [i, j, l] es) else none
    | _ => none
  | _ => none
def compSs (f : Stmt → Option S) : List Stmt → Option Ss
  | [] => some .nil
  | s :: r => (f s).bind fun a => (compSs f r).bind fun b => some (.cons a b)
def compS (N : List Str) (T : Tb) (mu : List Nat) (sc : Scope) : Nat → Stmt → Option S
  | 0, _ => none
  | n + 1, st => match st with
    | .Pass _ => some .pass
    | .Break _ => some .brk
    | .Continue _ => some .cont
    | .Return (some e) _ => (compE N T n sc e).bind fun y => some (.ret y)
    | .Assign [.Name x _] e _ => compSet N sc mu (compE N T n sc) x e
    | .Assign [.Tuple ts k tp] e _ => if isTupE e then compPar N sc (compE N T n sc) ts e else if isLcE e then none else (compTg N sc (.Tuple ts k tp)).bind fun p => (compE N T n sc e).bind fun y => some (.setT p.1.slots y)
    | .Expr (.Call (.Attribute (.Name x _) m apos) [e] [] p1) _ => if okN x && visB sc x && (apos.endLine == p1.line) then (slotOf N x).bind fun i => (compE N T n sc e).bind fun y => if m = ("append" : Str) then some (.append i y) else if m = ("extend" : Str) then some (.extend i y) else none else none
    | .If c a b _ => (compE N T n sc c).bind fun k => (compSs (compS N T mu sc n) a).bind fun x => (compSs (compS N T mu sc n) b).bind fun y => some (.ife k x y)
    | .For tg iter body [] _ => (compTg N sc tg).bind fun p => if okE iter then (compIt T sc (compE N T n sc) tg iter).bind fun it => (compSs (compS N T mu sc n) body).bind fun b => some (.for_ p.1 it b) else none
    | .While c body [] _ => (compE N T n sc c).bind fun k => (compSs (compS N T mu sc n) body).bind fun b => some (.while_ k b)
    | _ => none
end Lr
namespace Lr
open PySem PySem.Spec PyProof.Rows L2
structure Ctx (X : Cx) (N : List Str) (T : Tb) (c : Cfg) (sc : Scope) (lv : Nat) : Prop where
  calm : X.calm = true
  nm : X.N = N
  nd : N.Nodup
  sco : X.env.scope = sc
  room : Room lv X.A
  defs : ∀ x n, T.defs.lookup x = some n → ∃ fa fd ps, X.mg x = some (.ref fa) ∧ PySem.W.keepIn X.K (.ref fa) = true ∧ Binds X.K fd ps [] ∧ FnOk X.prog X.w X.K X.mg X.base CX0 lv fa fd ps (spF X.K (c.call x))
  consts : ∀ x d, T.consts.lookup x = some d → ∃ u v, X.mg x = some u ∧ RelV v u ∧ (∀ H, Has X.K H v d) ∧ c.glob x = some d
  free : ∀ x, T.free.contains x = true → X.mg x = none
theorem Ctx.blk {X : Cx} {N : List Str} {T : Tb} {c : Cfg} {sc : Scope} {lv : Nat} (h : Ctx X N T c sc lv) (s : Shared) (H : Hp) (scope : Scope) (C : Addr) (cl : List (Str × Addr)) (fp : List Addr) :
    Ctx (X.blk s H scope (compEnvC scope cl C X.env) fp) N T c (relS scope sc) lv :=
  ⟨h.calm, h.nm, h.nd, by rw [← h.sco]; rfl, h.room, h.defs, h.consts, h.free⟩
structure Good (X : Cx) (H0 : Hp) (c : Cfg) (e : Expr) (ee : Ex) : Prop where
  pe : PE X e (tE X.K H0 fun ρ => ev false c ρ ee)
  var : ∀ i, ee = .var i → PE X e (tVar i)
  pt : PT X e (tT X.K H0 fun ρ => ev true c ρ ee)
  ok : okE e = true
theorem ev_mode {c : Cfg} {ρ : Rho} {ee : Ex} (h : ∀ i, ee ≠ .var i) : ev true c ρ ee = ev false c ρ ee := by
  cases ee <;> first | rfl | exact absurd rfl (h _) | (unfold ev; rfl)
section
variable {X : Cx} {H0 : Hp} {c : Cfg}
theorem pr_of {e : Expr} {ee : Ex} (h : PE X e (tE X.K H0 fun ρ => ev false c ρ ee)) (hv : ∀ i, ee = .var i → PE X e (tVar i)) : PE X e (tR X.K H0 fun ρ => ev true c ρ ee) := by
  by_cases hx : ∃ i, ee = .var i
  · obtain ⟨i, rfl⟩ := hx
    have q := pe_varR (H0 := H0) (hv i rfl)
    exact q
  · have e1 : (fun ρ => ev true c ρ ee) = fun ρ => ev false c ρ ee := funext fun ρ => ev_mode fun i e => hx ⟨i, e⟩
    rw [e1]
    exact pe_r h
theorem Good.pr {e : Expr} {ee : Ex} (h : Good X H0 c e ee) : PE X e (tR X.K H0 fun ρ => ev true c ρ ee) := pr_of h.pe h.var
theorem Good.pm {e : Expr} {ee : Ex} (h : Good X H0 c e ee) (m : Bool) : PE X e (tM m X.K H0 fun ρ => ev m c ρ ee) := by
  cases m with
  | true => exact h.pr
  | false => exact h.pe
/-- an expression whose truth is its value's -/
theorem good_of {e : Expr} {ee : Ex} (h : PE X e (tE X.K H0 fun ρ => ev false c ρ ee)) (hv : ∀ i, ee = .var i → PE X e (tVar i)) (ht : ∀ whole, isTrue e X.env whole = (do let v ← whole; standAt e.pos; holding [v] (truthy v))) (ho : okE e = true) : Good X H0 c e ee :=
  ⟨h, hv, pt_ofE (pr_of h hv) ht, ho⟩
theorem good_ne {e : Expr} {ee : Ex} (h : PE X e (tE X.K H0 fun ρ => ev false c ρ ee)) (hv : ∀ i, ee ≠ .var i) (ht : ∀ whole, isTrue e X.env whole = (do let v ← whole; standAt e.pos; holding [v] (truthy v))) (ho : okE e = true) : Good X H0 c e ee :=
  good_of h (fun i e => absurd e (hv i)) ht ho
/-! lists of expressions -/
theorem compL_all {f : Expr → Option Ex} (hf : ∀ e ee, f e = some ee → Good X H0 c e ee) : ∀ {es : List Expr} {xs : Exs}, compL f es = some xs → es.all plainArg = true
  | [], _, _ => rfl
  | e :: es, xs, h => by
    unfold compL at h
    obtain ⟨a, ha, h⟩ := bs h
    obtain ⟨r, hr, h⟩ := bs h
    rw [List.all_cons, okE_plain (hf e a ha).ok, compL_all hf hr]
    rfl
theorem compL_E {f : Expr → Option Ex} (hf : ∀ e ee, f e = some ee → Good X H0 c e ee) : ∀ {es : List Expr} {xs : Exs}, compL f es = some xs → PA X es (tAE X.K H0 fun ρ => evs false c ρ xs)
  | [], _, h => by
    cases h
    exact pa_nilE
  | e :: es, xs, h => by
    unfold compL at h
    obtain ⟨a, ha, h⟩ := bs h
    obtain ⟨r, hr, h⟩ := bs h
    cases h
    have g := hf e a ha
    exact pa_consE g.pe (compL_E hf hr) (star_cons (okE_plain g.ok))
theorem compL_R {f : Expr → Option Ex} (hf : ∀ e ee, f e = some ee → Good X H0 c e ee) : ∀ {es : List Expr} {xs : Exs}, compL f es = some xs → PA X es (tAR X.K H0 fun ρ => evs true c ρ xs)
  | [], _, h => by
    cases h
    exact pa_nilR
  | e :: es, xs, h => by
    unfold compL at h
    obtain ⟨a, ha, h⟩ := bs h
    obtain ⟨r, hr, h⟩ := bs h
    cases h
    have g := hf e a ha
    exact pa_consR g.pr (compL_R hf hr) (star_cons (okE_plain g.ok))
/-! and, or -/
theorem compB_and {f : Expr → Option Ex} (hf : ∀ e ee, f e = some ee → Good X H0 c e ee) {pos : Pos} : ∀ {es : List Expr} {x : Ex}, compB .and f es = some x →
    PE X (.BoolOp .And es pos) (tR X.K H0 fun ρ => ev true c ρ x) ∧ PW X (.BoolOp .And es pos) (tT X.K H0 fun ρ => ev true c ρ x) ∧ (2 ≤ es.length → (∀ i, x ≠ .var i) ∧ PE X (.BoolOp .And es pos) (tE X.K H0 fun ρ => ev false c ρ x))
  | [], _, h => by cases h
  | [a], x, h => ⟨pe_one (hf a x h).pr, pw_and1 (hf a x h).pt, fun z => by simp at z⟩
  | a :: b :: r, x, h => by
    unfold compB at h
    obtain ⟨y, hy, h⟩ := bs h
    obtain ⟨z, hz, h⟩ := bs h
    cases h
    obtain ⟨i1, i2, _⟩ := compB_and hf (pos := pos) hz
    have g := hf a y hy
    have q : PE X (.BoolOp .And (a :: b :: r) pos) (tE X.K H0 fun ρ => ev false c ρ (.and y z)) := pe_andD g.pr i1
    exact ⟨pe_r q, pw_andD g.pt i2, fun _ => ⟨(fun i e => nomatch e), q⟩⟩
theorem compB_or {f : Expr → Option Ex} (hf : ∀ e ee, f e = some ee → Good X H0 c e ee) {pos : Pos} : ∀ {es : List Expr} {x : Ex}, compB .or f es = some x →
    PE X (.BoolOp .Or es pos) (tR X.K H0 fun ρ => ev true c ρ x) ∧ PW X (.BoolOp .Or es pos) (tT X.K H0 fun ρ => ev true c ρ x) ∧ (2 ≤ es.length → (∀ i, x ≠ .var i) ∧ PE X (.BoolOp .Or es pos) (tE X.K H0 fun ρ => ev false c ρ x))
  | [], _, h => by cases h
  | [a], x, h => ⟨pe_one (hf a x h).pr, pw_or1 (hf a x h).pt, fun z => by simp at z⟩
  | a :: b :: r, x, h => by
    unfold compB at h
    obtain ⟨y, hy, h⟩ := bs h
    obtain ⟨z, hz, h⟩ := bs h
    cases h
    obtain ⟨i1, i2, _⟩ := compB_or hf (pos := pos) hz
    have g := hf a y hy
    have q : PE X (.BoolOp .Or (a :: b :: r) pos) (tE X.K H0 fun ρ => ev false c ρ (.or y z)) := pe_orD g.pr i1
    exact ⟨pe_r q, pw_orD g.pt i2, fun _ => ⟨(fun i e => nomatch e), q⟩⟩
/-! subscripts -/
theorem compO_ok {f : Expr → Option Ex} (hf : ∀ e ee, f e = some ee → Good X H0 c e ee) {e : Option Expr} {x : Exo} (h : compO f e = some x) : PO X e (tP X.K H0 fun ρ => evPart c ρ x) := by
  cases e with
  | none => cases h; exact po_noneD
  | some e =>
    obtain ⟨a, ha, h⟩ := bs h
    cases h
    exact po_someD (hf e a ha).pr
theorem compSub_ok {f : Expr → Option Ex} (hf : ∀ e ee, f e = some ee → Good X H0 c e ee) {a i : Expr} {x : Ex} {pos : Pos} (h : compSub f a i = some x) : Good X H0 c (.Subscript a i pos) x := by
  unfold compSub at h
  split at h
  · obtain ⟨y, hy, h⟩ := bs h
    obtain ⟨l, hl, h⟩ := bs h
    obtain ⟨u, hu, h⟩ := bs h
    cases h
    exact good_ne (pe_sliceD (hf a y hy).pr (compO_ok hf hl) (compO_ok hf hu)) (fun i e => by cases e) (fun _ => rfl) rfl
  · obtain ⟨y, hy, h⟩ := bs h
    cases h
    exact good_ne (pe_revD (hf a y hy).pr) (fun i e => by cases e) (fun _ => rfl) rfl
  · obtain ⟨y, hy, h⟩ := bs h
    obtain ⟨z, hz, h⟩ := bs h
    cases h
    have g := hf _ z hz
    exact good_ne (pe_idxD (hf a y hy).pr g.pr (okE_ix g.ok)) (fun i e => by cases e) (fun _ => rfl) rfl
end
section
variable {X : Cx} {H0 : Hp} {c : Cfg} {N : List Str} {T : Tb} {sc : Scope} {lv : Nat}
theorem Ctx.gl (C : Ctx X N T c sc lv) {x : Str} (h : glB sc x = true) : Gl X x := by
  have := glB_ok h
  show X.env.scope.names.lookup x = _
  rw [C.sco]
  exact this
theorem freeB_ok (C : Ctx X N T c sc lv) {x : Str} (h : freeB T sc x = true) : Gl X x ∧ okN x = true ∧ X.mg x = none := by
  unfold freeB at h
  simp only [Bool.and_eq_true] at h
  exact ⟨C.gl h.1, h.2.1, C.free x h.2.2⟩
theorem tyOf_ok {x : Str} {t : Ty} (h : tyOf x = some t) : x = Str.ofString (tyS t) := by
  unfold tyOf at h
  have := List.find?_some h
  exact (of_decide_eq_true this).symm
theorem bi_ok (C : Ctx X N T c sc lv) {b : Bi} {x : Str} {n : Nat} {e : Expr} {es : List Expr} {xs : Exs} {p pos : Pos} (hb : biName b = some (x, n)) (hg : Gl X x) (hm : X.mg x = none) (hk : okN x = true) (ha : PA X (e :: es) (tAR X.K H0 fun ρ => evs true c ρ xs)) (h1 : (e :: es).all plainArg = true) :
    PE X (.Call (.Name x p) (e :: es) [] pos) (tE X.K H0 fun ρ => (evs true c ρ xs).bind (biEv b)) := by
  obtain ⟨k1, k2, k3⟩ := okN_ok hk
  have cm := C.calm
  have hu : X.A.units + 70 < cLine := by have := C.room.un; omega
  cases b <;> first | (cases hb; done) | skip
  · cases hb; exact pe_biB cr_len hg hm PySem.boot_len ha k3 k1 h1
  · cases hb; exact pe_biT cr_tuple hg hm (by decide +kernel) ha k3 k1 h1
  · cases hb; exact pe_biT cr_list hg hm (by decide +kernel) ha k3 k1 h1
  · cases hb; exact pe_biT cr_int hg hm (by decide +kernel) ha k3 k1 h1
  · cases hb; exact pe_biB (cr_sumD cm) hg hm (by decide +kernel) ha k3 k1 h1
  · cases hb; exact pe_biB (cr_anyD cm) hg hm (by decide +kernel) ha k3 k1 h1
  · cases hb; exact pe_biB (cr_allD cm) hg hm (by decide +kernel) ha k3 k1 h1
  · cases hb; exact pe_biB (cr_min1 C.room.hd hu) hg hm (by decide +kernel) ha k3 k1 h1
  · cases hb; exact pe_biB (cr_max1 C.room.hd hu) hg hm (by decide +kernel) ha k3 k1 h1
  · cases hb; exact pe_biB (cr_max2 cm) hg hm (by decide +kernel) ha k3 k1 h1
  · cases hb; exact pe_biB cr_absD hg hm (by decide +kernel) ha k3 k1 h1
  · cases hb; exact pe_biB (cr_sortedD hu) hg hm (by decide +kernel) ha k3 k1 h1
theorem compCall_ok (C : Ctx X N T c sc lv) {f : Expr → Option Ex} (hf : ∀ e ee, f e = some ee → Good X H0 c e ee) {x : Str} {args : List Expr} {y : Ex} {p pos : Pos} (h : compCall T sc f x args = some y) : Good X H0 c (.Call (.Name x p) args [] pos) y := by
  unfold compCall at h
  split at h
  · rename_i n hd
    split at h
    · rename_i hc
      simp only [Bool.and_eq_true, decide_eq_true_eq] at hc
      obtain ⟨h1, ⟨h2, h3⟩, h4⟩ := hc
      obtain ⟨es, he, h⟩ := bs h
      cases h
      obtain ⟨fa, fd, ps, m1, m2, m3, m4⟩ := C.defs x n hd
      cases args with
      | nil => rw [← h3] at h4; simp at h4
      | cons e r => exact good_ne (pe_callD m4 C.room (C.gl h1) m1 m2 m3 (compL_E hf he) (okN_ok h2).1 (compL_all hf he)) (fun i e => by cases e) (fun _ => rfl) rfl
    · cases h
  · split at h
    · rename_i hfr
      obtain ⟨f1, f2, f3⟩ := freeB_ok C hfr
      split at h
      · rename_i hx
        split at h
        · rename_i a t tp
          split at h
          · rename_i hft
            obtain ⟨t1, t2, t3⟩ := freeB_ok C hft
            obtain ⟨ty, hty, h⟩ := bs h
            obtain ⟨z, hz, h⟩ := bs h
            cases h
            have g := hf a z hz
            exact good_ne (pe_isiD hx (tyOf_ok hty) f1 f3 t1 t3 g.pr (star_cons (okE_plain g.ok))) (fun i e => by cases e) (fun _ => rfl) rfl
          · cases h
        · cases h
      · split at h
        · rename_i hx
          have plain : ∀ {es : Exs}, compL f args = some es → args.length = 1 → Good X H0 c (.Call (.Name x p) args [] pos) (.bi .len es) := fun {es} he hl => by
            cases args with
            | nil => cases hl
            | cons e r => exact good_ne (bi_ok C (b := .len) (n := 1) (by rw [hx]; rfl) f1 f3 f2 (compL_R hf he) (compL_all hf he)) (fun i e => by cases e) (fun _ => rfl) rfl
          split at h
          · rename_i y2 hls
            cases h
            unfold compLenSet at hls
            split at hls <;> first | (cases hls; done) | skip
            rename_i y yp a yq
            split at hls <;> first | (cases hls; done) | skip
            rename_i hc
            rw [Bool.and_eq_true, decide_eq_true_eq] at hc
            obtain ⟨t1, t2, t3⟩ := freeB_ok C hc.1
            obtain ⟨z, hz, hls⟩ := bs hls
            cases hls
            have g := hf a z hz
            refine good_ne ?_ (fun i e => by cases e) (fun _ => rfl) rfl
            refine pe_mono (pe_lenSetD hx hc.2 C.room.hd f1 f3 t1 t3 g.pr (okE_plain g.ok)) fun σ H Q ⟨ρ, d, r, he, q⟩ => ⟨ρ, d, r, ?_, q⟩
            have he : ((ev true c ρ z).bind fun d => (some ([] : List PyData)).bind fun ds => some (d :: ds)).bind lenSetEv = some d := he
            obtain ⟨ds, h1, h2⟩ := bs he
            obtain ⟨u, h3, h4⟩ := bs h1
            cases h4
            show ((ev true c ρ z).bind fun d => lenSetEv [d]) = some d
            rw [h3]
            exact h2
          · obtain ⟨es, he, h⟩ := bs h
            split at h <;> first | (cases h; done) | skip
            rename_i hl
            cases h
            exact plain he hl
        split at h
        · rename_i b hb
          obtain ⟨es, he, h⟩ := bs h
          cases h
          have hb2 := List.find?_some hb
          have hb' : biName b = some (x, args.length) := of_decide_eq_true hb2
          cases args with
          | nil =>
            exfalso
            cases b <;> first | (cases hb'; done) | (have := congrArg (fun o => (o.map (·.2)).getD 0) hb'; simp [biName] at this; done)
          | cons e r => exact good_ne (bi_ok C hb' f1 f3 f2 (compL_R hf he) (compL_all hf he)) (fun i e => by cases e) (fun _ => rfl) rfl
        · cases h
    · cases h
theorem methBi_ok {m : Str} {k : Bi} {a b : Expr} {f g : Evl} {apos pos : Pos} (h : methBi m = some k) (ha : PE X a (tR X.K H0 f)) (hb : PE X b (tR X.K H0 g)) (h1 : plainArg b = true) (h2 : abOk a = true) (h3 : (apos.endLine == pos.line) = true) :
    PE X (.Call (.Attribute a m apos) [b] [] pos) (tE X.K H0 fun ρ => (f ρ).bind fun x => (g ρ).bind fun y => biEv k [x, y]) := by
  unfold methBi at h
  split at h
  · rename_i hm; cases h; exact pe_joinD hm ha hb h1 h2 h3
  · split at h
    · rename_i hm; cases h; subst hm; exact pe_methD meth_index ha hb h1 h2 h3
    · split at h
      · rename_i hm; cases h; subst hm; exact pe_methD meth_split ha hb h1 h2 h3
      · cases h
theorem compMeth_ok {f : Expr → Option Ex} (hf : ∀ e ee, f e = some ee → Good X H0 c e ee) {o : Expr} {m : Str} {args : List Expr} {y : Ex} {apos pos : Pos} (h : compMeth f o m apos.endLine pos.line args = some y) : Good X H0 c (.Call (.Attribute o m apos) args [] pos) y := by
  unfold compMeth at h
  obtain ⟨k, hm, h1⟩ := bs h
  clear h
  have h := h1
  clear h1
  split at h
  · rename_i b
    split at h
    · rename_i hc
      simp only [Bool.and_eq_true] at hc
      obtain ⟨x, hx, h⟩ := bs h
      obtain ⟨z, hz, h⟩ := bs h
      cases h
      have g := hf b z hz
      refine good_ne ?_ (fun i e => by cases e) (fun _ => rfl) rfl
      refine pe_mono (methBi_ok hm (hf o x hx).pr g.pr (okE_plain g.ok) hc.1 hc.2) fun σ H Q ⟨ρ, d, r, he, q⟩ => ⟨ρ, d, r, ?_, q⟩
      have he : ((ev true c ρ x).bind fun d => ((ev true c ρ z).bind fun d2 => some [d2]).bind fun ds => some (d :: ds)).bind (biEv k) = some d := he
      obtain ⟨ds, h1, h2⟩ := bs he
      obtain ⟨u, h3, h4⟩ := bs h1
      obtain ⟨ws, h5, h6⟩ := bs h4
      obtain ⟨u2, h7, h8⟩ := bs h5
      cases h8
      cases h6
      show ((ev true c ρ x).bind fun x => (ev true c ρ z).bind fun y => biEv k [x, y]) = some d
      rw [h3, h7]
      exact h2
    · cases h
  · cases h
theorem compL_V {f : Expr → Option Ex} (hf : ∀ e ee, f e = some ee → Good X H0 c e ee) : ∀ {es : List Expr} {xs : Exs}, compL f es = some xs → ValsE X H0 es (fun ρ => evs false c ρ xs)
  | [], xs, h => by cases h; exact .nil
  | e :: es, xs, h => by
    unfold compL at h
    obtain ⟨a, ha, h⟩ := bs h
    obtain ⟨r, hr, h⟩ := bs h
    cases h
    exact .cons (f := fun ρ => ev false c ρ a) (gs := fun ρ => evs false c ρ r) (hf e a ha).pe (compL_V hf hr)
theorem okE_noSl {e : Expr} (h : okE e = true) : NoSl e := okE_ix h
theorem dgOk_ok {keys : List (Option Expr)} {values : List Expr} (h : dgOk keys values = true) : keys.length = values.length ∧ keys ≠ [] ∧ keys.length ≤ 15 := by
  unfold dgOk at h
  simp only [Bool.and_eq_true, decide_eq_true_eq, Bool.not_eq_true'] at h
  have ne : keys ≠ [] := by
    intro e
    rw [e] at h
    cases h.2.1
  exact ⟨h.1, ne, h.2.2⟩
theorem compDs_ok (C : Ctx X N T c sc lv) {f : Expr → Option Ex} (hf : ∀ e ee, f e = some ee → Good X H0 c e ee) {keys : List (Option Expr)} {values : List Expr} {i : Expr} {y : Ex} {dp pos : Pos} (h : compDs f keys values i = some y) : Good X H0 c (.Subscript (.Dict keys values dp) i pos) y := by
  unfold compDs at h
  split at h <;> first | (cases h; done) | skip
  rename_i hd
  obtain ⟨d1, d2, d3⟩ := dgOk_ok hd
  obtain ⟨ks, hk, h⟩ := bs h
  obtain ⟨vs, hv, h⟩ := bs h
  obtain ⟨k, hki, h⟩ := bs h
  cases h
  have g := hf i k hki
  refine good_ne ?_ (fun i e => by cases e) (fun _ => rfl) rfl
  refine pe_mono (pe_dsubD (by have := C.room.un; omega) hk (compL_V hf hv) d1 d2 d3 g.pr (okE_noSl g.ok)) fun σ H Q ⟨ρ, d, r, he, q⟩ => ⟨ρ, d, r, ?_, q⟩
  have he : ((evs false c ρ vs).bind fun ws => (ev true c ρ k).bind fun kd => (some (none : Option PyData)).bind fun df => dgetEv ks ws df kd) = some d := he
  obtain ⟨ws, h1, he⟩ := bs he
  obtain ⟨kd, h2, he⟩ := bs he
  show ((evs false c ρ vs).bind fun ws => (ev true c ρ k).bind fun kd => dgetEv ks ws none kd) = some d
  rw [h1]
  show ((ev true c ρ k).bind fun kd => dgetEv ks ws none kd) = some d
  rw [h2]
  exact he
theorem compDg_ok (C : Ctx X N T c sc lv) {f : Expr → Option Ex} (hf : ∀ e ee, f e = some ee → Good X H0 c e ee) {keys : List (Option Expr)} {values : List Expr} {e e2 : Expr} {m : Str} {y : Ex} {dp apos pos : Pos} (h : compDg f keys values m apos.endLine pos.line e e2 = some y) : Good X H0 c (.Call (.Attribute (.Dict keys values dp) m apos) [e, e2] [] pos) y := by
  unfold compDg at h
  split at h <;> first | (cases h; done) | skip
  rename_i hd
  simp only [Bool.and_eq_true, decide_eq_true_eq] at hd
  obtain ⟨d1, d2, d3⟩ := dgOk_ok hd.1
  obtain ⟨ks, hk, h⟩ := bs h
  obtain ⟨vs, hv, h⟩ := bs h
  obtain ⟨k, hki, h⟩ := bs h
  obtain ⟨z, hz, h⟩ := bs h
  cases h
  have g := hf e k hki
  have g2 := hf e2 z hz
  exact good_ne (pe_dget2D hd.2.1 (by have := C.room.un; omega) hk (compL_V hf hv) d1 d2 d3 g.pr g2.pe (okE_plain g.ok) (okE_plain g2.ok) hd.2.2) (fun i e => by cases e) (fun _ => rfl) rfl
/-! targets -/
theorem assignEach_all {env : Env} : ∀ {es : List Expr}, es.all plainArg = true → (assignEach es env).findIdx? (·.1) = none ∧ (assignEach es env).length = es.length
  | [], _ => ⟨rfl, rfl⟩
  | e :: es, h => by
    rw [List.all_cons, Bool.and_eq_true] at h
    have e1 : assignEach (e :: es) env = (false, assign e env) :: assignEach es env := by
      obtain ⟨h1, _⟩ := h
      cases e <;> first | rfl | (cases h1; done)
    obtain ⟨i1, i2⟩ := assignEach_all (env := env) h.2
    rw [e1]
    refine ⟨?_, by rw [List.length_cons, List.length_cons, i2]⟩
    rw [List.findIdx?_cons]
    simp [i1]
theorem names_ok {sc' : Scope} (hN : X.N = N) (nd : N.Nodup) (hx : ∀ x, isLC sc' x = true → Loc X.env.scope x ∧ (X.fn x = true ∨ X.env.scope.names.lookup x = some .local)) : ∀ {ts : List Expr} {ps : List (Str × Nat)}, compNames N sc' ts = some ps → PGs X ts (gNames (ps.map (·.2))) ∧ ts.all plainArg = true ∧ ts.length = ps.length
  | [], ps, h => by cases h; exact ⟨pgs_nil, rfl, rfl⟩
  | t :: ts, ps, h => by
    unfold compNames at h
    split at h <;> first | (cases h; done) | skip
    · rename_i e; cases e
    · rename_i x p r e
      cases e
      split at h <;> first | (cases h; done) | skip
      rename_i hl
      obtain ⟨i, hi, h⟩ := bs h
      obtain ⟨qs, hq, h⟩ := bs h
      cases h
      obtain ⟨i1, i2, i3⟩ := names_ok hN nd hx hq
      obtain ⟨l1, l2⟩ := hx x hl
      refine ⟨pgs_cons (pg_name (by rw [hN]; exact nd) (by rw [hN]; exact slotOf_get hi) l1 l2) i1 rfl, by rw [List.all_cons, i2]; rfl, by rw [List.length_cons, List.length_cons, i3]⟩
theorem tg_ok {sc' : Scope} (hc : X.calm = true) (hN : X.N = N) (nd : N.Nodup) (hx : ∀ x, isLC sc' x = true → Loc X.env.scope x ∧ (X.fn x = true ∨ X.env.scope.names.lookup x = some .local)) {tg : Expr} {p : Tgt × List (Str × Nat)} (h : compTg N sc' tg = some p) :
    PG X tg (gD X.K p.1) ∧ p.2.map (·.2) = p.1.slots := by
  unfold compTg at h
  split at h <;> first | (cases h; done) | skip
  · rename_i x q
    split at h <;> first | (cases h; done) | skip
    rename_i hl
    obtain ⟨i, hi, h⟩ := bs h
    cases h
    obtain ⟨l1, l2⟩ := hx x hl
    exact ⟨pg_name (by rw [hN]; exact nd) (by rw [hN]; exact slotOf_get hi) l1 l2, rfl⟩
  · rename_i ts k q
    obtain ⟨ps, hp, h⟩ := bs h
    cases h
    obtain ⟨i1, i2, i3⟩ := names_ok hN nd hx hp
    obtain ⟨j1, j2⟩ := assignEach_all (env := X.env) i2
    have t1 := pg_tup (pos := q) (k := k) (n := (ps.map (·.2)).length) hc i1 (by rw [j2, i3, List.length_map]) j1
    have t2 := pg_lst (pos := q) (k := k) (n := (ps.map (·.2)).length) hc i1 (by rw [j2, i3, List.length_map]) j1
    exact ⟨⟨fun pins s σ H v u Q I r hw => hw.elim (t1.run pins s σ H v u Q I r) (t2.run pins s σ H v u Q I r)⟩, rfl⟩
/-! what is walked -/
theorem evIt_size {m : Bool} {ρ : Rho} {it : Itx} {ds : List PyData} (h : evIt m c ρ it = some ds) : ds.length ≤ sizeLine := by
  have sq : ∀ {d : PyData} {ds : List PyData}, seqItems d = some ds → ds.length ≤ sizeLine := fun {d ds} h => by
    unfold seqItems at h
    split at h <;> first | (cases h; done) | skip
    all_goals
      split at h <;> first | (cases h; done) | skip
      rename_i hz
      cases h
      first
        | exact szOk_le hz
        | (unfold signs; rw [List.length_map]; have := szOk_le hz; simpa [Str.length] using this)
  have rg : ∀ {lo hi : Int} {ds : List PyData}, rangeEv lo hi = some ds → ds.length ≤ sizeLine := fun {lo hi ds} h => by
    obtain ⟨_, rfl, hz⟩ := rangeEv_some h
    unfold rangeD
    rw [List.length_map, List.length_range]
    exact hz
  cases it with
  | seq e => obtain ⟨d, _, h⟩ := bs h; exact sq h
  | range1 a =>
    obtain ⟨d, _, h⟩ := bs h
    unfold range1D at h
    split at h <;> first | (cases h; done) | skip
    exact rg h
  | range2 a b =>
    obtain ⟨d, _, h⟩ := bs h
    obtain ⟨d2, _, h⟩ := bs h
    unfold range2D at h
    split at h <;> first | (cases h; done) | skip
    exact rg h
  | enum a =>
    obtain ⟨d, _, h⟩ := bs h
    unfold enumEv at h
    split at h <;> first | (cases h; done) | skip
    all_goals
      split at h <;> first | (cases h; done) | skip
      rename_i hz
      cases h
      rw [enum_len]
      exact szOk_le hz
  | zip a b =>
    obtain ⟨d, _, h⟩ := bs h
    obtain ⟨d2, _, h⟩ := bs h
    unfold zipEv at h
    split at h <;> first | (cases h; done) | skip
    split at h <;> first | (cases h; done) | skip
    rename_i hz
    cases h
    have := szOk_le hz
    unfold zipD
    rw [List.length_zipWith]
    omega
theorem compRange_ok (C : Ctx X N T c sc lv) {m : Bool} {f : Expr → Option Ex} (hf : ∀ e ee, f e = some ee → Good X H0 c e ee) {tg e : Expr} {it : Itx} (h : compRange T sc f e = some it) : PI X tg e (tI m X.K H0 fun ρ => evIt m c ρ it) ∧ okE e = true ∧ ∀ ρ, sealIt ρ it = ρ := by
  unfold compRange at h
  split at h <;> first | (cases h; done) | skip
  · rename_i x p a q
    split at h <;> first | (cases h; done) | skip
    rename_i hc
    rw [Bool.and_eq_true, decide_eq_true_eq] at hc
    obtain ⟨f1, f2, f3⟩ := freeB_ok C hc.1
    obtain ⟨y, hy, h⟩ := bs h
    cases h
    have g := hf a y hy
    exact ⟨pi_range1D hc.2 f1 f3 g.pr (okE_plain g.ok), rfl, fun _ => rfl⟩
  · rename_i x p a b q
    split at h <;> first | (cases h; done) | skip
    rename_i hc
    rw [Bool.and_eq_true, decide_eq_true_eq] at hc
    obtain ⟨f1, f2, f3⟩ := freeB_ok C hc.1
    obtain ⟨y, hy, h⟩ := bs h
    obtain ⟨z, hz, h⟩ := bs h
    cases h
    have g := hf a y hy
    have g2 := hf b z hz
    exact ⟨pi_range2D hc.2 f1 f3 g.pr g2.pr (okE_plain g.ok) (okE_plain g2.ok), rfl, fun _ => rfl⟩
theorem compEn_ok (C : Ctx X N T c sc lv) {m : Bool} {f : Expr → Option Ex} (hf : ∀ e ee, f e = some ee → Good X H0 c e ee) {tg e : Expr} {it : Itx} (h : compEn T sc f tg e = some it) : PI X tg e (tI m X.K H0 fun ρ => evIt m c ρ it) ∧ okE e = true ∧ ∀ ρ, sealIt ρ it = ρ := by
  unfold compEn at h
  split at h <;> first | (cases h; done) | skip
  · rename_i x p a q
    split at h <;> first | (cases h; done) | skip
    rename_i hc
    rw [Bool.and_eq_true, decide_eq_true_eq] at hc
    obtain ⟨f1, f2, f3⟩ := freeB_ok C hc.1
    obtain ⟨y, hy, h⟩ := bs h
    cases h
    have g := hf a y hy
    exact ⟨pi_enumD hc.2 f1 f3 (g.pm m) (okE_plain g.ok), rfl, fun _ => rfl⟩
  · rename_i x p a b q
    split at h <;> first | (cases h; done) | skip
    rename_i hc
    rw [Bool.and_eq_true, decide_eq_true_eq] at hc
    obtain ⟨f1, f2, f3⟩ := freeB_ok C hc.1
    obtain ⟨y, hy, h⟩ := bs h
    obtain ⟨z, hz, h⟩ := bs h
    cases h
    have g := hf a y hy
    have g2 := hf b z hz
    exact ⟨pi_zipD hc.2 f1 f3 g.pr g2.pr (okE_plain g.ok) (okE_plain g2.ok), rfl, fun _ => rfl⟩
theorem compIt_ok (C : Ctx X N T c sc lv) {m : Bool} {f : Expr → Option Ex} (hf : ∀ e ee, f e = some ee → Good X H0 c e ee) {tg e : Expr} {it : Itx} (h : compIt T sc f tg e = some it) : PI X tg e (tI m X.K H0 fun ρ => evIt m c ρ it) ∧ okE e = true := by
  unfold compIt at h
  split at h
  · rename_i i hr
    cases h
    exact ⟨(compRange_ok C hf hr).1, (compRange_ok (m := m) (tg := tg) C hf hr).2.1⟩
  · split at h
    · rename_i i hr
      cases h
      exact ⟨(compEn_ok C hf hr).1, (compEn_ok (m := m) (tg := tg) C hf hr).2.1⟩
    · obtain ⟨y, hy, h⟩ := bs h
      cases h
      have g := hf e y hy
      exact ⟨pi_seqD (g.pm m), g.ok⟩
theorem relS_lc {scope sc : Scope} {x : Str} (h : isLC scope x = true) : isLC (relS scope sc) x = true ∧ (relS scope sc).names.lookup x = scope.names.lookup x := by
  rcases isLC_ok h with e | e
  · have q : (relS scope sc).names.lookup x = some .local := lookup_relS_keep (by decide) e
    exact ⟨by unfold isLC; rw [q], by rw [q, e]⟩
  · have q : (relS scope sc).names.lookup x = some .cell := lookup_relS_keep (by decide) e
    exact ⟨by unfold isLC; rw [q], by rw [q, e]⟩
theorem compIfs_ok {X : Cx} {g : Expr → Option Ex} (hg : ∀ e ee, g e = some ee → Good X H0 c e ee) {ifs : List Expr} {co : Ex} (h : compIfs g ifs = some co) : PTs X ifs (tT X.K H0 fun ρ => ev true c ρ co) := by
  unfold compIfs at h
  split at h <;> first | (cases h; done) | skip
  · cases h
    exact ⟨fun pins s σ H Q I ⟨ρ, k, r, hf, q⟩ => by
      have e : some (PyData.bool true) = some (.bool k) := hf
      cases e
      exact pts_nil.run pins s σ H Q I (q H (Same.refl _))⟩
  · exact pts_one (hg _ co h).pt
end
end Lr
namespace Lr
open PySem PySem.Spec PyProof.Rows L2
section
variable {H0 : Hp} {c : Cfg} {N : List Str} {T : Tb} {lv : Nat}
theorem compTg_slots {sc' : Scope} {tg : Expr} {p : Tgt × List (Str × Nat)} (h : compTg N sc' tg = some p) : p.2.map (·.2) = p.1.slots := by
  unfold compTg at h
  split at h <;> first | (cases h; done) | skip
  · split at h <;> first | (cases h; done) | skip
    obtain ⟨i, _, h⟩ := bs h
    cases h
    rfl
  · obtain ⟨ps, _, h⟩ := bs h
    cases h
    rfl
/-- what a comprehension's text gives, for the value and for the assignment -/
theorem compLc_parts {X : Cx} {sc : Scope} (C : Ctx X N T c sc lv) {f g : Expr → Option Ex} {elt tg iter : Expr} {ifs : List Expr} {scope : Scope} {y : Ex} (hf : ∀ e ee, f e = some ee → Good X H0 c e ee)
    (hg : ∀ (s : Shared) (H : Hp) (A : Addr) (cl : List (Str × Addr)) (fp : List Addr) e ee, g e = some ee → Good (X.blk s H scope (compEnvC scope cl A X.env) fp) H0 c e ee) (h : compLc N T sc f g elt tg iter ifs scope = some y) :
    ∃ (tgt : Tgt) (own : List (Str × Nat)) (it : Itx) (co el : Ex), y = .lc el tgt it co ∧ PI X tg iter (tI true X.K H0 fun ρ => evIt true c ρ it) ∧ BlkOk X.N X.env.scope scope own ∧ own.map (·.2) = tgt.slots ∧
      (∀ (s : Shared) (H : Hp) (A : Addr) (cl : List (Str × Addr)) (fp : List Addr), PG (X.blk s H scope (compEnvC scope cl A X.env) fp) tg (gD X.K tgt)) ∧
      (∀ (s : Shared) (H : Hp) (A : Addr) (cl : List (Str × Addr)) (fp : List Addr), PTs (X.blk s H scope (compEnvC scope cl A X.env) fp) ifs (tT X.K H0 fun ρ => ev true c ρ co)) ∧
      (∀ (s : Shared) (H : Hp) (A : Addr) (cl : List (Str × Addr)) (fp : List Addr), PE (X.blk s H scope (compEnvC scope cl A X.env) fp) elt (tE X.K H0 fun ρ => ev false c ρ el)) ∧ okE iter = true := by
  unfold compLc at h
  obtain ⟨p, hp, h⟩ := bs h
  split at h <;> first | (cases h; done) | skip
  rename_i hb
  obtain ⟨it, hi, h⟩ := bs h
  obtain ⟨co, hco, h⟩ := bs h
  obtain ⟨el, hel, h⟩ := bs h
  cases h
  obtain ⟨i1, i2⟩ := compIt_ok (m := true) (tg := tg) C hf hi
  have tgs : ∀ (s : Shared) (H : Hp) (A : Addr) (cl : List (Str × Addr)) (fp : List Addr), PG (X.blk s H scope (compEnvC scope cl A X.env) fp) tg (gD X.K p.1) ∧ p.2.map (·.2) = p.1.slots := fun s H A cl fp => by
    refine tg_ok (X := X.blk s H scope (compEnvC scope cl A X.env) fp) (sc' := scope) C.calm C.nm C.nd (fun x hx => ?_) hp
    have e1 : (X.blk s H scope (compEnvC scope cl A X.env) fp).env.scope = relS scope X.env.scope := rfl
    obtain ⟨q1, q2⟩ := relS_lc (sc := X.env.scope) hx
    rw [e1]
    rcases isLC_ok hx with e | e
    · exact ⟨.inl (by rw [q2]; exact e), .inr (by rw [q2]; exact e)⟩
    · refine ⟨.inr (by rw [q2]; exact e), .inl ?_⟩
      show (scope.names.lookup x == some .cell) = true
      rw [e]
      rfl
  refine ⟨p.1, p.2, it, co, el, rfl, i1, ?_, compTg_slots hp, fun s H A cl fp => (tgs s H A cl fp).1, fun s H A cl fp => compIfs_ok (hg s H A cl fp) hco, fun s H A cl fp => (hg s H A cl fp elt el hel).pe, i2⟩
  have := blkOk_by hb
  rw [← C.nm, ← C.sco] at this
  exact this
theorem compE_ok : ∀ (n : Nat) {X : Cx} {sc : Scope} {e : Expr} {ee : Ex}, Ctx X N T c sc lv → compE N T n sc e = some ee → Good X H0 c e ee
  | 0, X, sc, e, ee, C, h => by cases h
  | n + 1, X, sc, e, ee, C, h => by
    have hf : ∀ e ee, compE N T n sc e = some ee → Good X H0 c e ee := fun e ee => compE_ok n C
    have hu : X.A.units + 65 < cLine := by have := C.room.un; omega
    unfold compE at h
    split at h <;> first | (cases h; done) | skip
    · -- a name
      rename_i x p
      split at h <;> first | (cases h; done) | skip
      rename_i hk
      obtain ⟨k1, k2, k3⟩ := okN_ok hk
      split at h
      · rename_i hv
        obtain ⟨i, hi, h⟩ := bs h
        cases h
        have q : PE X (.Name x p) (tVar i) := pe_var (by rw [C.nm]; exact slotOf_get hi) (by rw [C.sco]; exact visB_ok hv) k1 k2
        exact good_of (pe_varE q) (fun j e => by cases e; exact q) (fun _ => rfl) rfl
      · split at h <;> first | (cases h; done) | skip
        rename_i hg
        obtain ⟨d, hd, h⟩ := bs h
        cases h
        obtain ⟨u, v, m1, m2, m3, m4⟩ := C.consts x d hd
        have q : PE X (.Name x p) (tE X.K H0 fun _ => some d) := pe_lit (pe_glob (C.gl hg) m1 m2 k1) m3
        have e1 : (fun ρ => ev false c ρ (.glob x)) = fun (_ : Rho) => some d := funext fun _ => m4
        exact good_ne (by rw [e1]; exact q) (fun i e => by cases e) (fun _ => rfl) rfl
    · -- a constant
      rename_i k j p
      obtain ⟨d, hd, h⟩ := bs h
      cases h
      refine good_ne ?_ (fun i e => by cases e) (fun _ => rfl) rfl
      unfold constE at hd
      split at hd <;> first | (cases hd; done) | skip
      · cases hd; exact pe_lit pe_non fun _ => .non
      · cases hd; exact pe_lit pe_bl fun _ => .bl _
      · cases hd; exact pe_lit pe_int fun _ => .int _
      · cases hd; exact pe_lit pe_str fun _ => .str _
    · obtain ⟨es, he, h⟩ := bs h
      cases h
      exact good_ne (pe_tupD (compL_E hf he)) (fun i e => by cases e) (fun _ => rfl) rfl
    · obtain ⟨es, he, h⟩ := bs h
      cases h
      exact good_ne (pe_f (pe_lstF (compL_E hf he)) fun ρ d hd => lstD_list (gs := fun ρ => evs false c ρ es) (ρ := ρ) hd) (fun i e => by cases e) (fun _ => rfl) rfl
    · rename_i a op b p
      obtain ⟨o, ho, h⟩ := bs h
      obtain ⟨x, hx, h⟩ := bs h
      obtain ⟨y, hy, h⟩ := bs h
      cases h
      refine good_ne ?_ (fun i e => by cases e) (fun _ => rfl) rfl
      unfold bopOf at ho
      split at ho <;> first | (cases ho; done) | skip
      · cases ho; exact pe_opD opD_add (hf a x hx).pr (hf b y hy).pr
      · cases ho; exact pe_opD opD_sub (hf a x hx).pr (hf b y hy).pr
      · cases ho; exact pe_opD opD_mul (hf a x hx).pr (hf b y hy).pr
      · cases ho; exact pe_opD opD_fdiv (hf a x hx).pr (hf b y hy).pr
      · cases ho; exact pe_opD opD_mod (hf a x hx).pr (hf b y hy).pr
    · rename_i a op b p
      obtain ⟨x, hx, h⟩ := bs h
      obtain ⟨y, hy, h⟩ := bs h
      cases h
      have ho : OpB X (compareOp op) (cmpEv (copOf op)) := by have := opB_cmp hu (copOf op); rw [copM_of] at this; exact this
      have gb := hf b y hy
      exact ⟨pe_cmpD ho (hf a x hx).pr gb.pr (okE_mark gb.ok), (fun i e => nomatch e), pt_cmpD ho (hf a x hx).pr gb.pr (okE_mark gb.ok), rfl⟩
    · rename_i a op op' b d p
      obtain ⟨x, hx, h⟩ := bs h
      obtain ⟨y, hy, h⟩ := bs h
      obtain ⟨z, hz, h⟩ := bs h
      cases h
      have ho : OpB X (compareOp op) (cmpEv (copOf op)) := by have := opB_cmp hu (copOf op); rw [copM_of] at this; exact this
      have ho' : OpB X (compareOp op') (cmpEv (copOf op')) := by have := opB_cmp hu (copOf op'); rw [copM_of] at this; exact this
      have gb := hf b y hy
      have gd := hf d z hz
      have key : ∀ {ρ : Rho} {r : PyData}, ev false c ρ (.chain (copOf op) (copOf op') x y z) = some r → ∃ kk, r = PyData.bool kk ∧ chainF (cmpEv (copOf op)) (cmpEv (copOf op')) (fun ρ => ev true c ρ x) (fun ρ => ev true c ρ y) (fun ρ => ev true c ρ z) ρ = some (PyData.bool kk) := by
        intro ρ r hr
        have hr : ((ev true c ρ x).bind fun x => (ev true c ρ y).bind fun y => (cmpEv (copOf op) x y).bind (chainD y (copOf op') (ev true c ρ z))) = some r := hr
        obtain ⟨x', e1, hr⟩ := bs hr
        obtain ⟨y', e2, hr⟩ := bs hr
        obtain ⟨b', e3, hr⟩ := bs hr
        unfold chainF
        show ∃ kk, r = PyData.bool kk ∧ ((ev true c ρ x).bind fun x => (ev true c ρ y).bind fun y => (cmpEv (copOf op) x y).bind fun b => if b then (ev true c ρ z).bind fun z => (cmpEv (copOf op') y z).map PyData.bool else some (PyData.bool false)) = some (PyData.bool kk)
        rw [e1, e2]
        show ∃ kk, r = PyData.bool kk ∧ ((cmpEv (copOf op) x' y').bind fun b => if b then (ev true c ρ z).bind fun z => (cmpEv (copOf op') y' z).map PyData.bool else some (PyData.bool false)) = some (PyData.bool kk)
        rw [e3]
        cases b' with
        | false => cases hr; exact ⟨false, rfl, rfl⟩
        | true =>
          obtain ⟨z', e4, hr⟩ := bs hr
          obtain ⟨kk, e5, rfl⟩ := Option.map_eq_some_iff.mp hr
          refine ⟨kk, rfl, ?_⟩
          show (ev true c ρ z).bind (fun z => (cmpEv (copOf op') y' z).map PyData.bool) = some (PyData.bool kk)
          rw [e4]
          show (cmpEv (copOf op') y' z').map PyData.bool = some (PyData.bool kk)
          rw [e5]
          rfl
      refine ⟨?_, (fun i e => nomatch e), ?_, rfl⟩
      · refine pe_mono (pe_chain (opR_of ho) (opR_of ho') (hf a x hx).pr gb.pr gd.pr (okE_mark gd.ok)) fun σ H Q ⟨ρ, r, rr, hr, q⟩ => ?_
        obtain ⟨kk, rfl, hk⟩ := key hr
        exact chain_read rr hk fun H' s => q _ H' s (.bl _)
      · refine pt_mono (pt_chain (opR_of ho) (opR_of ho') (hf a x hx).pr gb.pr gd.pr (okE_mark gd.ok)) fun σ H Q ⟨ρ, kb, rr, hr, q⟩ => ?_
        obtain ⟨kk, e5, hk⟩ := key (show ev false c ρ _ = some _ from hr)
        cases e5
        exact chain_read rr hk fun H' s => ⟨_, rfl, q H' s⟩
    · obtain ⟨i1, i2, i3⟩ := compB_and hf (pos := ‹_›) h
      obtain ⟨j1, j2⟩ := i3 (by simp)
      exact ⟨j2, fun i e => absurd e (j1 i), i2.pt, rfl⟩
    · obtain ⟨i1, i2, i3⟩ := compB_or hf (pos := ‹_›) h
      obtain ⟨j1, j2⟩ := i3 (by simp)
      exact ⟨j2, fun i e => absurd e (j1 i), i2.pt, rfl⟩
    · obtain ⟨x, hx, h⟩ := bs h
      cases h
      exact ⟨pe_notD (hf _ x hx).pr, (fun i e => nomatch e), pt_notD (hf _ x hx).pt, rfl⟩
    · obtain ⟨x, hx, h⟩ := bs h
      cases h
      exact good_ne (pe_negD (hf _ x hx).pr) (fun i e => by cases e) (fun _ => rfl) rfl
    · exact compDs_ok C hf h
    · exact compSub_ok hf h
    · exact compCall_ok C hf h
    · exact compDg_ok C hf h
    · exact compMeth_ok hf h
    · rename_i elt tg iter ifs scope p
      obtain ⟨tgt, own, it, co, el, rfl, i1, i2, i3, i4, i5, i6, i7⟩ := compLc_parts C hf (fun s H A cl fp e ee he => compE_ok n (C.blk s H scope A cl fp) he) h
      refine good_ne ?_ (fun i e => by cases e) (fun _ => rfl) rfl
      exact pe_f (f := fun ρ => ev false c ρ (.lc el tgt it co)) (pe_lcF (fi := fun ρ => evIt true c ρ it) (fc := fun ρ => ev true c ρ co) (fe := fun ρ => ev false c ρ el) C.calm (by rw [C.nm]; exact C.nd) i1 (fun ρ ds hd => evIt_size hd) i2 i3 i4 i5 i6 (okE_fold i7)) fun ρ d hd => lcF_list (tgt := tgt) (fi := fun ρ => evIt true c ρ it) (fc := fun ρ => ev true c ρ co) (fe := fun ρ => ev false c ρ el) (ρ := ρ) hd
end
end Lr
namespace Lr
open PySem PySem.Spec PyProof.Rows L2
section
variable {H0 : Hp} {c : Cfg} {N : List Str} {T : Tb} {lv : Nat} {X : Cx} {sc : Scope}
def lcE : Expr → Bool
  | .ListComp _ _ _ _ => true
  | _ => false
theorem sw_no {e : Expr} {t : Option Expr} {l : Nat} {env : Env} (h : okE e = true) (hl : lcE e = false) : swapsWith e t l env = pure false := by
  cases e <;> first | rfl | (cases h; done) | (cases hl; done)
theorem compE_F (C : Ctx X N T c sc lv) {n : Nat} {e : Expr} {y : Ex} (h : compE N T n sc e = some y) (hy : freshE y = true) (hl : lcE e = false) : PE X e (tF X.K H0 fun ρ => ev false c ρ y) := by
  cases n with
  | zero => cases h
  | succ n =>
    have hf : ∀ e ee, compE N T n sc e = some ee → Good X H0 c e ee := fun e ee => compE_ok n C
    unfold compE at h
    split at h <;> first | (cases h; done) | skip
    · split at h <;> first | (cases h; done) | skip
      split at h
      · obtain ⟨i, _, h⟩ := bs h; cases h; cases hy
      · split at h <;> first | (cases h; done) | skip
        obtain ⟨d, _, h⟩ := bs h; cases h; cases hy
    · obtain ⟨d, _, h⟩ := bs h; cases h; cases hy
    · obtain ⟨d, _, h⟩ := bs h; cases h; cases hy
    · obtain ⟨es, he, h⟩ := bs h
      cases h
      exact pe_lstF (compL_E hf he)
    · rename_i a op b p
      obtain ⟨o, ho, h⟩ := bs h
      obtain ⟨x, hx, h⟩ := bs h
      obtain ⟨z, hz, h⟩ := bs h
      cases h
      cases o <;> first | (cases hy; done) | skip
      unfold bopOf at ho
      split at ho <;> first | (cases ho; done) | skip
      exact pe_catF (hf a x hx).pr (hf b z hz).pr
    · obtain ⟨x, _, h⟩ := bs h; obtain ⟨z, _, h⟩ := bs h; cases h; cases hy
    · obtain ⟨x, _, h⟩ := bs h; obtain ⟨z, _, h⟩ := bs h; obtain ⟨u, _, h⟩ := bs h; cases h; cases hy
    · unfold compB at h
      obtain ⟨x, _, h⟩ := bs h; obtain ⟨z, _, h⟩ := bs h; cases h; cases hy
    · unfold compB at h
      obtain ⟨x, _, h⟩ := bs h; obtain ⟨z, _, h⟩ := bs h; cases h; cases hy
    · obtain ⟨x, _, h⟩ := bs h; cases h; cases hy
    · obtain ⟨x, _, h⟩ := bs h; cases h; cases hy
    · unfold compDs at h
      split at h <;> first | (cases h; done) | skip
      obtain ⟨x, _, h⟩ := bs h; obtain ⟨z, _, h⟩ := bs h; obtain ⟨u, _, h⟩ := bs h; cases h; cases hy
    · unfold compSub at h
      split at h
      · obtain ⟨x, _, h⟩ := bs h; obtain ⟨z, _, h⟩ := bs h; obtain ⟨u, _, h⟩ := bs h; cases h; cases hy
      · obtain ⟨x, _, h⟩ := bs h; cases h; cases hy
      · obtain ⟨x, _, h⟩ := bs h; obtain ⟨z, _, h⟩ := bs h; cases h; cases hy
    · unfold compCall at h
      split at h
      · split at h <;> first | (cases h; done) | skip
        obtain ⟨x, _, h⟩ := bs h; cases h; cases hy
      · split at h <;> first | (cases h; done) | skip
        split at h
        · split at h <;> first | (cases h; done) | skip
          split at h <;> first | (cases h; done) | skip
          obtain ⟨x, _, h⟩ := bs h; obtain ⟨z, _, h⟩ := bs h; cases h; cases hy
        · split at h
          · split at h
            · rename_i y2 hls
              cases h
              unfold compLenSet at hls
              split at hls <;> first | (cases hls; done) | skip
              split at hls <;> first | (cases hls; done) | skip
              obtain ⟨x, _, hls⟩ := bs hls; cases hls; cases hy
            · obtain ⟨x, _, h⟩ := bs h
              split at h <;> first | (cases h; done) | skip
              cases h; cases hy
          · split at h <;> first | (cases h; done) | skip
            obtain ⟨x, _, h⟩ := bs h; cases h; cases hy
    · unfold compDg at h
      split at h <;> first | (cases h; done) | skip
      obtain ⟨x, _, h⟩ := bs h; obtain ⟨z, _, h⟩ := bs h; obtain ⟨u, _, h⟩ := bs h; obtain ⟨u2, _, h⟩ := bs h; cases h; cases hy
    · unfold compMeth at h
      obtain ⟨k0, _, h⟩ := bs h
      split at h <;> first | (cases h; done) | skip
      split at h <;> first | (cases h; done) | skip
      obtain ⟨x, _, h⟩ := bs h; obtain ⟨z, _, h⟩ := bs h; cases h; cases hy
    · cases hl
/-- the swapping of a comprehension's value with its name -/
theorem sw_lc (elt : Expr) (gs : List Comprehension) (scope : Scope) (p py : Pos) (t : Str) (l : Nat) (env : Env) :
    swapsWith (.ListComp elt gs scope p) (some (.Name t py)) l env = pure (env.blockKind == .function && env.kindOf t == some .local && py.line == p.line && !(scope.names.any fun (n, k) => n == t && (k == .local || k == .cell))) := rfl
theorem compE_lc (C : Ctx X N T c sc lv) {n : Nat} {elt : Expr} {gs : List Comprehension} {scope : Scope} {p : Pos} {y : Ex} (h : compE N T n sc (.ListComp elt gs scope p) = some y) {i : Nat} {x : Str} {px pos : Pos} (hi : N[i]? = some x) (hx : isLC sc x = true) (hfn : ∀ x, X.fn x = true) :
    (∃ a b d e, y = .lc a b d e) ∧ PS X (.Assign [.Name x px] (.ListComp elt gs scope p) pos) (tAsg (tF X.K H0 fun ρ => ev false c ρ y) (gName i)) := by
  have g := compE_ok (H0 := H0) n C h
  cases n with
  | zero => cases h
  | succ n =>
    have hf : ∀ e ee, compE N T n sc e = some ee → Good X H0 c e ee := fun e ee => compE_ok n C
    unfold compE at h
    split at h <;> first | (cases h; done) | (rename_i heq; cases heq; done) | skip
    rename_i elt' tg iter ifs scope' p' he
    cases he
    obtain ⟨tgt, own, it, co, el, rfl, i1, i2, i3, i4, i5, i6, i7⟩ := compLc_parts C hf (fun s H A cl fp e ee he => compE_ok n (C.blk s H scope A cl fp) he) h
    refine ⟨⟨_, _, _, _, rfl⟩, ?_⟩
    have hlc : X.env.scope.names.lookup x = some .local ∨ X.env.scope.names.lookup x = some .cell := by rw [C.sco]; exact isLC_ok hx
    have hN : X.N.Nodup := by rw [C.nm]; exact C.nd
    have hi' : X.N[i]? = some x := by rw [C.nm]; exact hi
    cases hb : (X.env.blockKind == .function && X.env.kindOf x == some .local && px.line == p.line && !(scope.names.any fun (n, k) => n == x && (k == .local || k == .cell))) with
    | true =>
      have hsw : swapsWith (.ListComp elt [⟨tg, iter, ifs, 0⟩] scope p) (some (.Name x px)) pos.line X.env = pure true := by rw [sw_lc, hb]
      have hl : X.env.scope.names.lookup x = some .local := by
        simp only [Bool.and_eq_true] at hb
        exact eq_of_beq hb.1.1.2
      exact ps_lcF (fi := fun ρ => evIt true c ρ it) (fc := fun ρ => ev true c ρ co) (fe := fun ρ => ev false c ρ el) C.calm hN hi' hl hsw i1 (fun ρ ds hd => evIt_size hd) i2 i3 i4 i5 i6 (okE_fold i7)
    | false =>
      have hsw : swapsWith (.ListComp elt [⟨tg, iter, ifs, 0⟩] scope p) (some (.Name x px)) pos.line X.env = pure false := by rw [sw_lc, hb]
      exact ps_setF hN hi' hlc (hfn x) (pe_lcF (fi := fun ρ => evIt true c ρ it) (fc := fun ρ => ev true c ρ co) (fe := fun ρ => ev false c ρ el) C.calm hN i1 (fun ρ ds hd => evIt_size hd) i2 i3 i4 i5 i6 (okE_fold i7)) hsw
/-- sealed, by its kind -/
theorem Good.sealed {e : Expr} {y : Ex} (g : Good X H0 c e y) : PE X e (tSeal X.K H0 (fun ρ => sealE ρ y) fun ρ => ev false c ρ y) := by
  by_cases hx : ∃ i, y = .var i
  · obtain ⟨i, rfl⟩ := hx
    have := pe_sealVar (H0 := H0) (g.var i rfl)
    exact this
  · have e1 : (fun ρ => sealE ρ y) = id := funext fun ρ => by
      cases y <;> first | rfl | exact absurd ⟨_, rfl⟩ hx
    rw [e1]
    exact pe_sealId g.pe
theorem compSet_ok (C : Ctx X N T c sc lv) (hfn : ∀ x, X.fn x = true) {n : Nat} {mu : List Nat} {x : Str} {e : Expr} {s : S} {px pos : Pos} (h : compSet N sc mu (compE N T n sc) x e = some s) : PS X (.Assign [.Name x px] e pos) (tS X.K H0 fun ρ => ex c ρ s) := by
  unfold compSet at h
  split at h <;> first | (cases h; done) | skip
  rename_i hx
  obtain ⟨i, hi, h⟩ := bs h
  obtain ⟨y, hy, h⟩ := bs h
  have hi0 := slotOf_get hi
  have hN : X.N.Nodup := by rw [C.nm]; exact C.nd
  have hi' : X.N[i]? = some x := by rw [C.nm]; exact hi0
  have hlc : Loc X.env.scope x := by rw [C.sco]; exact isLC_ok hx
  have g := compE_ok (H0 := H0) n C hy
  cases hl : lcE e with
  | false =>
    split at h
    · split at h <;> first | (cases h; done) | skip
      rename_i hfr
      cases h
      exact ps_ownD (f := fun ρ => ev false c ρ y) (ps_setF hN hi' hlc (hfn x) (compE_F C hy hfr hl) (sw_no g.ok hl))
    · cases h
      exact ps_setD (sl := fun ρ => sealE ρ y) (f := fun ρ => ev false c ρ y) hN hi' hlc (hfn x) g.sealed (sw_no g.ok hl)
  | true =>
    cases e <;> first | (cases hl; done) | skip
    obtain ⟨⟨a1, a2, a3, a4, rfl⟩, q⟩ := compE_lc (H0 := H0) (px := px) (pos := pos) C hy hi0 hx hfn
    split at h
    · split at h <;> first | (cases h; done) | skip
      cases h
      exact ps_ownD q
    · cases h
      refine ps_mono (ps_frzD q) fun D σ H ⟨ρ, o, r, he, z⟩ => ⟨ρ, o, r, ?_, z⟩
      have he : ((ev false c ρ (.lc a1 a2 a3 a4)).bind fun d => some (Out.nx (ρ.set i (.val d)))) = some o := he
      obtain ⟨d, hd, he⟩ := bs he
      obtain ⟨ds, rfl⟩ := lcF_list (tgt := a2) (fi := fun ρ => evIt true c ρ a3) (fc := fun ρ => ev true c ρ a4) (fe := fun ρ => ev false c ρ a1) (ρ := ρ) hd
      show ((ev false c ρ (.lc a1 a2 a3 a4)).bind fun d => (listOf d).bind fun ds => some (Out.nx (ρ.set i (.val (.list ds))))) = some o
      rw [hd]
      exact he
theorem compSs_ok {mu : List Nat} {f : Stmt → Option S} (hf : ∀ st s, f st = some s → PS X st (tS X.K H0 fun ρ => ex c ρ s)) : ∀ {sts : List Stmt} {ss : Ss}, compSs f sts = some ss → PSs X sts (tS X.K H0 fun ρ => exs c ρ ss)
  | [], ss, h => by
    cases h
    exact pss_nilD
  | st :: sts, ss, h => by
    unfold compSs at h
    obtain ⟨s, hs, h⟩ := bs h
    obtain ⟨r, hr, h⟩ := bs h
    cases h
    exact pss_consD (f := fun ρ => ex c ρ s) (g := fun ρ => exs c ρ r) (hf st s hs) (compSs_ok (mu := mu) hf hr)
theorem loc_all (C : Ctx X N T c sc lv) (hfn : ∀ x, X.fn x = true) : ∀ x, isLC sc x = true → Loc X.env.scope x ∧ (X.fn x = true ∨ X.env.scope.names.lookup x = some .local) := fun x hx => ⟨by rw [C.sco]; exact isLC_ok hx, .inl (hfn x)⟩
theorem compFor_it (C : Ctx X N T c sc lv) {n : Nat} {tg e : Expr} {it : Itx} (h : compIt T sc (compE N T n sc) tg e = some it) : PI X tg e (tIS X.K H0 (fun ρ => sealIt ρ it) fun ρ => evIt false c ρ it) := by
  have hf : ∀ e ee, compE N T n sc e = some ee → Good X H0 c e ee := fun e ee => compE_ok n C
  unfold compIt at h
  split at h
  · rename_i i hr
    cases h
    obtain ⟨h1, _, h2⟩ := compRange_ok (m := false) (tg := tg) C hf hr
    have e1 : (fun ρ => sealIt ρ it) = id := funext h2
    rw [e1]
    exact pi_sealId h1
  · split at h
    · rename_i i hr
      cases h
      obtain ⟨h1, _, h2⟩ := compEn_ok (m := false) (tg := tg) C hf hr
      have e1 : (fun ρ => sealIt ρ it) = id := funext h2
      rw [e1]
      exact pi_sealId h1
    · obtain ⟨y, hy, h⟩ := bs h
      cases h
      exact pi_seqS (sl := fun ρ => sealE ρ y) (f := fun ρ => ev false c ρ y) (hf e y hy).sealed
theorem compS_ok (C : Ctx X N T c sc lv) (hfn : ∀ x, X.fn x = true) (hp : PassesOwn (model X.prog X.w) X.A X.env X.xe) {mu : List Nat} : ∀ (n : Nat) {st : Stmt} {s : S}, compS N T mu sc n st = some s → PS X st (tS X.K H0 fun ρ => ex c ρ s)
  | 0, st, s, h => by cases h
  | n + 1, st, s, h => by
    have hE : ∀ e ee, compE N T n sc e = some ee → Good X H0 c e ee := fun e ee => compE_ok n C
    have hS : ∀ sts ss, compSs (compS N T mu sc n) sts = some ss → PSs X sts (tS X.K H0 fun ρ => exs c ρ ss) := fun sts ss => compSs_ok (mu := mu) fun st s => compS_ok C hfn hp n
    unfold compS at h
    split at h <;> first | (cases h; done) | skip
    · cases h; exact ps_passD
    · cases h; exact ps_brkD
    · cases h; exact ps_contD
    · obtain ⟨y, hy, h⟩ := bs h
      cases h
      exact ps_retD (sl := fun ρ => sealE ρ y) (f := fun ρ => ev false c ρ y) (hE _ y hy).sealed
    · exact compSet_ok C hfn h
    · rename_i ts k tp e p
      split at h
      · unfold compPar at h
        split at h <;> first | (cases h; done) | skip
        rename_i vs k2 p2
        obtain ⟨es, he, h⟩ := bs h
        have ha := compL_E hE he
        have nm : X.N = N := C.nm
        split at h <;> first | (cases h; done) | skip
        · split at h <;> first | (cases h; done) | skip
          rename_i hc
          obtain ⟨i, hi, h⟩ := bs h
          obtain ⟨j, hj, h⟩ := bs h
          cases h
          exact ps_par2D C.calm (by rw [nm]; exact C.nd) (by rw [nm]; exact slotOf_get hi) (by rw [nm]; exact slotOf_get hj) ha (by rw [C.sco]; exact hc)
        · split at h <;> first | (cases h; done) | skip
          rename_i hc
          obtain ⟨i, hi, h⟩ := bs h
          obtain ⟨j, hj, h⟩ := bs h
          obtain ⟨l, hl, h⟩ := bs h
          cases h
          exact ps_par3D C.calm (by rw [nm]; exact C.nd) (by rw [nm]; exact slotOf_get hi) (by rw [nm]; exact slotOf_get hj) (by rw [nm]; exact slotOf_get hl) ha (by rw [C.sco]; exact hc)
      · rename_i hno1
        split at h <;> first | (cases h; done) | skip
        rename_i hno2
        have hno : ¬ (isTupE e || isLcE e) = true := by
          intro z
          rcases Bool.or_eq_true_iff.mp z with z | z
          · exact hno1 z
          · exact hno2 z
        obtain ⟨q, hq, h⟩ := bs h
        obtain ⟨y, hy, h⟩ := bs h
        cases h
        have g := hE e y hy
        obtain ⟨t1, t2⟩ := tg_ok (X := X) C.calm C.nm C.nd (loc_all C hfn) hq
        have hq1 : q.1 = .tup q.1.slots := by
          unfold compTg at hq
          obtain ⟨ps, _, hq⟩ := bs hq
          cases hq
          rfl
        rw [hq1] at t1
        refine ps_setTD (f := fun ρ => ev false c ρ y) g.pe t1 ?_ ?_
        · cases e <;> first | rfl | (exact absurd rfl hno) | (exfalso; apply hno; rfl) | (have := g.ok; cases this; done)
        · cases e <;> first | rfl | (exfalso; apply hno; rfl)
    · rename_i x xp m apos e p1 p2
      split at h <;> first | (cases h; done) | skip
      rename_i hc
      simp only [Bool.and_eq_true] at hc
      obtain ⟨⟨c1, c2⟩, c3⟩ := hc
      obtain ⟨k1, k2, k3⟩ := okN_ok c1
      obtain ⟨i, hi, h⟩ := bs h
      obtain ⟨y, hy, h⟩ := bs h
      have hx : PE X (.Name x xp) (tVar i) := pe_var (by rw [C.nm]; exact slotOf_get hi) (by rw [C.sco]; exact visB_ok c2) k1 k2
      have g := hE e y hy
      split at h
      · rename_i hm
        cases h
        exact ps_appendD (f := fun ρ => ev false c ρ y) hm hx g.pe (okE_plain g.ok) c3
      · split at h <;> first | (cases h; done) | skip
        rename_i hm
        cases h
        exact ps_extendD (f := fun ρ => ev false c ρ y) hm hx g.pe (okE_plain g.ok) c3
    · obtain ⟨k, hk, h⟩ := bs h
      obtain ⟨x, hx, h⟩ := bs h
      obtain ⟨y, hy, h⟩ := bs h
      cases h
      exact ps_ifD (fc := fun ρ => ev true c ρ k) (f := fun ρ => exs c ρ x) (g := fun ρ => exs c ρ y) (hE _ k hk).pt (hS _ x hx) (hS _ y hy)
    · obtain ⟨q, hq, h⟩ := bs h
      split at h <;> first | (cases h; done) | skip
      rename_i hoi
      obtain ⟨it, hi, h⟩ := bs h
      obtain ⟨b, hb, h⟩ := bs h
      cases h
      obtain ⟨t1, _⟩ := tg_ok (X := X) C.calm C.nm C.nd (loc_all C hfn) hq
      exact ps_forD (sl := fun ρ => sealIt ρ it) (fi := fun ρ => evIt false c ρ it) (fb := fun ρ => exs c ρ b) hp C.calm (compFor_it C hi) t1 (hS _ b hb) (okE_fold hoi)
    · obtain ⟨k, hk, h⟩ := bs h
      obtain ⟨b, hb, h⟩ := bs h
      cases h
      exact ps_whileD (fc := fun ρ => ev true c ρ k) (fb := fun ρ => exs c ρ b) (n := c.fuel) hp (hE _ k hk).pt (hS _ b hb)
end
end Lr
namespace Lr
open PySem PySem.Spec PyProof.Rows L2
/-! ### a program's defs -/
structure Dn where
  x : Str
  st : Stmt
  N : List Str
  ps : List Str
  mu : List Nat
  df : Df
def scB (N ps : List Str) (sc : Scope) : Bool :=
  decide (sc.kind = .function) && (!sc.isCoroutine && !sc.isGenerator) && (decide N.Nodup && decide (N.take ps.length = ps)) && (ps.all fun x => isLC sc x) && (sc.names.all fun y => decide (y.2 ≠ .free))
theorem scB_ok {N ps : List Str} {sc : Scope} (h : scB N ps sc = true) : FnScope N ps sc := by
  unfold scB at h
  simp only [Bool.and_eq_true, decide_eq_true_eq, Bool.not_eq_true', List.all_eq_true] at h
  obtain ⟨⟨⟨⟨h1, h2, h3⟩, h4, h5⟩, h6⟩, h7⟩ := h
  exact ⟨h1, h2, h3, h4, h5, fun x hx => isLC_ok (h6 x hx), fun y hy => h7 y hy⟩
def tbDefs (L : List Dn) : List (Str × Nat) := L.map fun d => (d.x, d.df.ar)
def tbFind (L : List Dn) (x : Str) : Option Df := match L with
  | [] => none
  | d :: r => if d.x = x then some d.df else tbFind r x
theorem tb_find : ∀ {L : List Dn} {x : Str} {n : Nat}, (tbDefs L).lookup x = some n → ∃ d ∈ L, d.x = x ∧ tbFind L x = some d.df
  | [], x, n, h => by cases h
  | d :: r, x, n, h => by
    unfold tbDefs at h
    rw [List.map_cons, List.lookup_cons] at h
    by_cases e : d.x = x
    · exact ⟨d, List.mem_cons_self, e, by unfold tbFind; rw [if_pos e]⟩
    · have e2 : (x == d.x) = false := beq_eq_false_iff_ne.mpr fun z => e z.symm
      rw [e2] at h
      obtain ⟨d', h1, h2, h3⟩ := tb_find (L := r) (x := x) (n := n) h
      exact ⟨d', List.mem_cons_of_mem _ h1, h2, by unfold tbFind; rw [if_neg e]; exact h3⟩
/-- a def's text fits its record -/
structure Fits (T : Tb) (d : Dn) : Prop where
  sc : scB d.N d.ps (defScope d.st) = true
  bd : ∀ (kV doc pm : Value) (an : Option Addr) (cdv ct : Value) (us : List Value), us.length = d.ps.length → bindArgs (PySem.W.fnOf d.x d.x (defArgs d.st) (defBody d.st) (defScope d.st) .none kV doc pm an cdv ct) ⟨us, []⟩ = pure (d.ps.zip us)
  body : compSs (compS d.N T d.mu (defScope d.st) 40) (defBody d.st) = some d.df.body
  na : d.df.ar = d.ps.length
  nn : d.df.nn = d.N.length
structure Facts (K : PySem.W.Frag) (mg : Str → Option Value) (L : List Dn) (T : Tb) (g : Str → Option PyData) : Prop where
  noL : ∀ a o, K.lookup a = some o → o.cls ≠ .type "list"
  defs : ∀ d ∈ L, ∃ fa fd, mg d.x = some (.ref fa) ∧ FunD K d.x d.x (defArgs d.st) (defBody d.st) (defScope d.st) [] [] fa fd
  consts : ∀ x d, T.consts.lookup x = some d → ∃ u v, mg x = some u ∧ RelV v u ∧ (∀ H, Has K H v d) ∧ g x = some d
  free : ∀ x, T.free.contains x = true → mg x = none
section
variable {P : Program} {w : World} {K : PySem.W.Frag} {mg : Str → Option Value} {base : Heap} {L : List Dn} {T : Tb} {g : Str → Option PyData} {fuel : Nat}
theorem runDf_len {c : Cfg} {d : Df} {ds : List PyData} {r : PyData} (h : runDf c d ds = some r) : ds.length = d.ar := by
  unfold runDf at h
  split at h
  · assumption
  · cases h
theorem rel_start {H : Hp} {N : List Str} {vs : List V} {ds : List PyData} {d : Df} (hn : d.nn = N.length) (hl : vs.length ≤ N.length) (t : HasAll K H vs ds) : RelEnv K H H (start N vs) (start0 d ds) := by
  have l := t.length
  refine ⟨Same.refl _, ?_, fun i s hi => ?_, fun i j s s' a hi hj oi oj _ _ => ?_⟩
  · unfold L2.start start0
    rw [List.length_append, List.length_append, List.length_map, List.length_map, List.length_replicate, List.length_replicate]
    omega
  · unfold start0 at hi
    unfold L2.start
    by_cases h : i < ds.length
    · rw [List.getElem?_append_left (by simpa using h), List.getElem?_map] at hi
      rw [List.getElem?_append_left (by simpa [l] using h), List.getElem?_map]
      cases q : ds[i]? with
      | none => rw [q] at hi; cases hi
      | some e =>
        rw [q] at hi
        cases hi
        obtain ⟨v, h1, h2⟩ := t.get q
        rw [h1]
        exact ⟨v, rfl, h2⟩
    · rw [List.getElem?_append_right (by simpa using h), List.getElem?_replicate] at hi
      split at hi
      · cases hi; trivial
      · cases hi
  · exfalso
    unfold start0 at hi
    by_cases h : i < ds.length
    · rw [List.getElem?_append_left (by simpa using h), List.getElem?_map] at hi
      cases q : ds[i]? with
      | none => rw [q] at hi; cases hi
      | some e => rw [q] at hi; cases hi; cases oi
    · rw [List.getElem?_append_right (by simpa using h), List.getElem?_replicate] at hi
      split at hi
      · cases hi; cases oi
      · cases hi
theorem defs_ok (F : Facts K mg L T g) (hT : T.defs = tbDefs L) (hfit : ∀ d ∈ L, Fits T d) : ∀ (k : Nat) (d : Dn) (fa : Addr) (fd : FuncData), d ∈ L → tbFind L d.x = some d.df → FunD K d.x d.x (defArgs d.st) (defBody d.st) (defScope d.st) [] [] fa fd →
    FnOk P w K mg base CX0 k fa fd d.ps (spF K (callAt (tbFind L) g fuel k d.x))
  | 0, d, fa, fd, hd, hx, G => by
    have no : ∀ vs H Q E, ¬ spF K (callAt (tbFind L) g fuel 0 d.x) vs H Q E := fun vs H Q E ⟨ds, r, _, h, _⟩ => by cases h
    exact ⟨fun vs H Q E h => absurd h (no vs H Q E), fun A outer s H args us vs Q E _ _ _ _ h => absurd h (no vs H Q E)⟩
  | k + 1, d, fa, fd, hd, hx, G => by
    have fit := hfit d hd
    have S := scB_ok fit.sc
    refine G.ok S (fun vs H Q E h => ?_) (fun cdv A outer s H vs Q E hr h => ?_)
    · obtain ⟨ds, r, t, h, _⟩ := h
      unfold callAt at h
      rw [hx] at h
      rw [t.length, runDf_len h, fit.na]
    · obtain ⟨ds, r, t, h, q⟩ := h
      unfold callAt at h
      rw [hx] at h
      have h : runDf ⟨callAt (tbFind L) g fuel k, fuel, g⟩ d.df ds = some r := h
      have hl := runDf_len h
      unfold runDf at h
      rw [if_pos hl] at h
      obtain ⟨o, ho, h⟩ := bs h
      have C : Ctx (cxOf CX0 P w K mg base d.N d.x (defScope d.st) fa cdv A outer s H E).nox d.N T ⟨callAt (tbFind L) g fuel k, fuel, g⟩ (defScope d.st) k := by
        refine ⟨rfl, rfl, S.nd, rfl, hr, fun x n hn => ?_, F.consts, F.free⟩
        rw [hT] at hn
        obtain ⟨d', h1, h2, h3⟩ := tb_find hn
        obtain ⟨fa', fd', m1, m2⟩ := F.defs d' h1
        subst h2
        refine ⟨fa', fd', d'.ps, m1, m2.kp, m2.bindsN (hfit d' h1).bd, ?_⟩
        exact defs_ok F hT hfit k d' fa' fd' h1 h3 m2
      have body := compSs_ok (mu := d.mu) (X := (cxOf CX0 P w K mg base d.N d.x (defScope d.st) fa cdv A outer s H E).nox) (H0 := H) (fun st s' => compS_ok C (fun _ => rfl) PassesOwn.never 40) fit.body
      refine ⟨_, PSs.nox body, start0 d.df ds, o, ?_, ho, ?_⟩
      · refine rel_start fit.nn ?_ t
        have := congrArg List.length S.pre
        rw [List.length_take] at this
        rw [t.length, hl, fit.na]
        omega
      · cases o with
        | nx ρ => cases h; exact fun σ' H' ex r' => q _ H' r'.same .non
        | ret d' => cases h; exact fun v H' ex sm z => q v H' sm z
        | brk ρ => cases h
        | cont ρ => cases h
end
/-! ### the head's facts -/
def noLB (K : PySem.W.Frag) : Bool := K.all fun p => match p.2.cls with
  | .type n => decide (n ≠ "list")
  | _ => true
theorem lookup_memK {a : Addr} {o : Obj} : ∀ {l : List (Addr × Obj)}, l.lookup a = some o → (a, o) ∈ l
  | [], h => by cases h
  | (b, u) :: r, h => by
    rw [List.lookup_cons] at h
    split at h
    · rename_i e
      have : a = b := by simpa using e
      cases h
      rw [this]
      exact List.mem_cons_self
    · exact List.mem_cons_of_mem _ (lookup_memK h)
theorem noLB_ok {K : PySem.W.Frag} (h : noLB K = true) : ∀ a o, K.lookup a = some o → o.cls ≠ .type "list" := by
  intro a o e z
  have := List.all_eq_true.mp h _ (lookup_memK e)
  simp only [z] at this
  simp at this
def obL (n : Nat) (fa : List He.Fa) (fn : List He.DefD) (g : Addr → Option Obj) : He.AlD × Bool := (He.obsDG n fa fn g, noLB (He.frG g (He.asD g n)))
def hookL (n : Nat) (fa : List He.Fa) (fn : List He.DefD) : PySem.W.Hook where
  α := He.AlD × Bool
  obs := fun s => obL n fa fn s.heap.get?
  val := fun _ => (He.valD fn, true)
  says := fun _ h => ∃ K : PySem.W.Frag, K.In h ∧ He.SaysD fa fn K ∧ noLB K = true
  of := fun _ _ e => ⟨_, He.frG_in, congrArg Prod.fst e, congrArg Prod.snd e⟩
  keeps := fun _ _ _ ⟨K, hK, c⟩ k => ⟨K, PySem.W.Frag.In.keeps hK k, c⟩
theorem obL_eq {n : Nat} {fa : List He.Fa} {fn : List He.DefD} {g : Addr → Option Obj} {s : Shared} (h : ∀ a, g a = s.heap.get? a) : obL n fa fn g = (hookL n fa fn).obs s := by
  have e : g = s.heap.get? := funext h
  rw [e] <;> rfl
/-- the facts asked of the head, by the program's record -/
def constFa : List (Str × PyData) → List He.Fa
  | [] => []
  | (x, .int i) :: r => .int x i :: constFa r
  | (x, .str z) :: r => .str x z :: constFa r
  | _ :: r => constFa r
def constOk : List (Str × PyData) → Bool
  | [] => true
  | (_, .int _) :: r => constOk r
  | (_, .str _) :: r => constOk r
  | _ :: _ => false
def faOf (L : List Dn) (T : Tb) : List He.Fa := (L.map fun d => .glo d.x) ++ (T.free.map fun x => .free x) ++ constFa T.consts
def fnOf (L : List Dn) : List He.DefD := L.map fun d => ⟨(d.x, none), d.x, d.x, defArgs d.st, defBody d.st, defScope d.st, [], []⟩
theorem fact_mem {fa : List He.Fa} {fn : List He.DefD} {K : PySem.W.Frag} (c : He.SaysD fa fn K) {f : He.Fa} (h : f ∈ fa) : f.ok K = true := by
  obtain ⟨i, hi⟩ := List.getElem?_of_mem h
  exact c.fact i hi
theorem const_mem {d : PyData} {x : Str} : ∀ {cs : List (Str × PyData)}, constOk cs = true → cs.lookup x = some d → (∃ i, d = .int i ∧ He.Fa.int x i ∈ constFa cs) ∨ ∃ z, d = .str z ∧ He.Fa.str x z ∈ constFa cs
  | [], _, h => by cases h
  | (y, e) :: r, ok, h => by
    rw [List.lookup_cons] at h
    cases e with
    | int i =>
      split at h
      · rename_i he
        have : x = y := by simpa using he
        cases h
        subst this
        exact .inl ⟨i, rfl, List.mem_cons_self⟩
      · rcases const_mem (show constOk r = true from ok) h with ⟨i, h1, h2⟩ | ⟨z, h1, h2⟩
        · exact .inl ⟨i, h1, List.mem_cons_of_mem _ h2⟩
        · exact .inr ⟨z, h1, List.mem_cons_of_mem _ h2⟩
    | str i =>
      split at h
      · rename_i he
        have : x = y := by simpa using he
        cases h
        subst this
        exact .inr ⟨i, rfl, List.mem_cons_self⟩
      · rcases const_mem (show constOk r = true from ok) h with ⟨i, h1, h2⟩ | ⟨z, h1, h2⟩
        · exact .inl ⟨i, h1, List.mem_cons_of_mem _ h2⟩
        · exact .inr ⟨z, h1, List.mem_cons_of_mem _ h2⟩
    | _ => cases ok
theorem facts_of {K : PySem.W.Frag} {h : Heap} {mg : Str → Option Value} {L : List Dn} {T : Tb} (KX : K.In h) (G : h.Ns mainGlobals mg) (c : He.SaysD (faOf L T) (fnOf L) K) (nl : noLB K = true) (hc : constOk T.consts = true) : Facts K mg L T (fun x => T.consts.lookup x) := by
  refine ⟨noLB_ok nl, fun d hd => ?_, fun x d hx => ?_, fun x hx => ?_⟩
  · have m : (⟨(d.x, none), d.x, d.x, defArgs d.st, defBody d.st, defScope d.st, [], []⟩ : He.DefD) ∈ fnOf L := List.mem_map.mpr ⟨d, hd, rfl⟩
    obtain ⟨i, hi⟩ := List.getElem?_of_mem m
    obtain ⟨fd, F⟩ := c.def_ i hi
    refine ⟨_, fd, He.glo_ok KX G (fact_mem c ?_), F⟩
    exact List.mem_append_left _ (List.mem_append_left _ (List.mem_map.mpr ⟨d, hd, rfl⟩))
  · rcases const_mem hc hx with ⟨i, rfl, hm⟩ | ⟨z, rfl, hm⟩
    · obtain ⟨t, ht⟩ := He.int_ok KX G (fact_mem c (List.mem_append_right _ hm))
      exact ⟨_, .int i, ht, ⟨t, rfl⟩, fun _ => .int _, hx⟩
    · obtain ⟨t, ht⟩ := He.str_ok KX G (fact_mem c (List.mem_append_right _ hm))
      exact ⟨_, .str z, ht, ⟨t, rfl⟩, fun _ => .str _, hx⟩
  · refine He.free_ok KX G (fact_mem c ?_)
    refine List.mem_append_left _ (List.mem_append_right _ (List.mem_map.mpr ⟨x, ?_, rfl⟩))
    simpa using hx
/-! ### the law -/
theorem law_walk {l : PySem.W.OpenLaw} {q : Program} {loose : List Str} {XP : (Str → Option Value) → Heap → Prop} {d : DefRec} {L : List Dn} {T : Tb} {fuel k n : Nat} {dl : Dn} (hn : l.most = some 63) (hdf : d.params.defaults = []) (hname : d.name = ("law" : Str)) (hr : Room k callerA)
    (hT : T.defs = tbDefs L) (hfit : ∀ d ∈ L, Fits T d) (hc : constOk T.consts = true) (hl : dl ∈ L) (hlx : dl.x = ("law" : Str)) (hlp : dl.ps = [("script" : Str)]) (hlf : tbFind L ("law" : Str) = some dl.df)
    (pure : ∀ ns : List Int, ns.length ≤ 63 → callAt (tbFind L) (fun x => T.consts.lookup x) fuel k ("law" : Str) [.list (ns.map .int)] = some (.bool true)) :
    PySem.W.WalkO q loose XP (hookL n (faOf L T) (fnOf L)).says l.row.toRowW d [] (fun f vs => PySem.call f vs) := by
  refine L2.walk_ofE (l := l) (n := 63) (k := k) (x := "script") (CX := CX0) hn (by decide) hdf hr ?_ (fun _ _ _ _ z => z)
  intro w mg fa h Y G hmg0
  obtain ⟨K, KX, c, nl⟩ := Y
  have F := facts_of KX G c nl hc
  obtain ⟨fa', fd, m1, m2⟩ := F.defs dl hl
  rw [hname] at hmg0
  rw [hlx] at m1
  rw [m1] at hmg0
  cases hmg0
  refine ⟨K, fd, spF K (callAt (tbFind L) (fun x => T.consts.lookup x) fuel k dl.x), KX, fun s u => ?_, fun H a ns hns hO hS => ?_, fun base kin ns => ?_⟩
  · have := m2.bindsA (hfit dl hl).bd s [u] (by rw [hlp]; rfl)
    rw [hlp] at this
    exact this
  · refine ⟨[.list (ns.map .int)], .bool true, .one ?_, by rw [hlx]; exact pure ns hns, fun v H' _ z => z.r.blE⟩
    rcases hS with (e | ⟨o, e⟩) | ⟨o, its, m, e, e2, _⟩
    · rcases hO a with z | ⟨o, xs, z⟩
      · rw [e] at z; cases z
      · rw [e] at z; cases z
    · exact .lst ⟨o, e⟩ (HasAll.ints ns)
    · exact absurd e2 (F.noL a o e)
  · have := defs_ok (P := l.prog) (w := w) (base := base) (fuel := fuel) F hT hfit k dl fa fd hl (by rw [hlx]; exact hlf) m2
    rw [hlp] at this
    exact this
end Lr
namespace Lr
open PySem PySem.Spec PyProof.Rows L2
/-! ### an object that is changed: all but it is kept -/
def Sb (p : Addr) (H H' : Hp) : Prop := ∀ b o, b ≠ p → H b = some o → H' b = some o
theorem Sb.refl (p : Addr) (H : Hp) : Sb p H H := fun _ _ _ h => h
theorem Sb.trans {p : Addr} {H H1 H2 : Hp} (a : Sb p H H1) (b : Sb p H1 H2) : Sb p H H2 := fun c o n h => b c o n (a c o n h)
theorem sb_same {p : Addr} {H H' : Hp} (h : Same H H') : Sb p H H' := fun b o _ e => h b o e
theorem sb_upd {p : Addr} {H : Hp} (o : HO) : Sb p H (upd H p o) := fun b u n e => by rw [upd_ne n]; exact e
theorem sb_fresh {p q : Addr} {H : Hp} (o : HO) (h : H q = none) : Sb p H (upd H q o) := sb_same (same_upd h o)
theorem Sb.ext {p C dx : Addr} {fs : List (Str × V)} {H H' : Hp} (s : Sb p H H') (h : H p = some (.ins C dx fs)) : Ext H H' :=
  ⟨fun a xs e => s a _ (fun z => by rw [z, h] at e; cases e) e, fun a o u e => s a _ (fun z => by rw [z, h] at e; cases e) e⟩
theorem Sb.same {p : Addr} {H H' : Hp} (s : Sb p H H') (h : H p = none) : Same H H' := fun b o e => s b o (ne_of_none e h) e
section
variable {X : Cx}
theorem opC (hu : X.A.units + 65 < cLine) (op : CmpOp) : OpR X (compareOp op) (rB X.K (cmpEv (copOf op))) := by
  have ho : OpB X (compareOp op) (cmpEv (copOf op)) := by have := opB_cmp hu (copOf op); rw [copM_of] at this; exact this
  exact opR_of ho
abbrev rD (K : PySem.W.Frag) (gg : PyData → PyData → Option PyData) : R2 := fun x y H2 Q => ∃ d e r, HasR K H2 x d ∧ HasR K H2 y e ∧ gg d e = some r ∧ ∀ z H3, Same H2 H3 → Has K H3 z r → Q z H3
theorem opG {op : Operator} {gg : PyData → PyData → Option PyData} (ho : OpD X (binaryOp op) gg) : OpR X (binaryOp op) (rD X.K gg) :=
  fun pins s σ H x y v u Q I rx ry ⟨d, e, r, h1, h2, h3, q⟩ => ho pins s σ H x y v u Q d e r I rx ry h1 h2 h3 q
theorem ixP {b : Expr} (h : okE b = true) : PlainIx b := okE_ix h
end
theorem HasRs.one {K : PySem.W.Frag} {H : Hp} {v : V} {d : PyData} (h : HasR K H v d) : HasRs K H [v] [d] := .cons h .nil
/-- what a def that raises nothing here promises -/
theorem FnOk.calm {P : Program} {w : World} {K : PySem.W.Frag} {mg : Str → Option Value} {base : Heap} {k : Nat} {f : Addr} {fd : FuncData} {ps : List Str} {sp sp' : Sp} (F : FnOk P w K mg base (L2.CX P w) k f fd ps sp) (h : ∀ vs H Q E, sp' vs H Q E → sp vs H Q E0) :
    FnOk P w K mg base CX0 k f fd ps sp' :=
  ⟨fun vs H Q E q => F.len vs H Q E0 (h _ _ _ _ q), fun A outer s H args us vs Q E hr he hb hv hs => codeAny_mono (F.run A outer s H args us vs Q E0 hr he hb hv (h _ _ _ _ hs)) fun r s' hq => by
    cases r with
    | error e =>
      obtain ⟨_, _, _, _, _, _, _, _, _, _, _, _, z⟩ := (show L2.CX P w outer H s E0 e s' from hq)
      exact z.elim
    | ok fl => cases fl <;> exact hq⟩
end Lr
namespace Lr
open PySem PySem.Spec PyProof.Rows L2
/-! ### marks told back: the plain meaning -/
noncomputable section
abbrev Rs := Option (Option (PyData × Nat))
def lhW : PyData := .tuple [.str "letter", .str "head"]
def wordP (ms : List PyData) (i : Nat) : Option PyData := if i = ms.length then some (.str "") else (idxEv (.tuple ms) (.int i)).bind fun m => idxEv m (.int 0)
def handP (hs : List PyData) : PyData → Option (Option PyData)
  | .int l => if 0 ≤ l ∧ l < hs.length then (idxEv (.tuple hs) (.int l)).map some else some none
  | _ => none
def nxR {α β : Type} (r : Option α) (f : α → Option (Option β)) : Option (Option β) := match r with
  | none => some none
  | some a => f a
def loopS (ms : List PyData) (f : Nat → Rs) : Nat → Nat → List PyData → Rs
  | 0, _, _ => none
  | n + 1, i, acc => (wordP ms i).bind fun w => (cmpEv .isin w lhW).bind fun b =>
    if b then (f i).bind fun r => nxR r fun q => if szOk (acc.length + 1) then loopS ms f n q.2 (acc ++ [q.1]) else none
    else some (some (.tuple acc, i))
def loopL (ms : List PyData) (f : Nat → Rs) : Nat → Nat → List PyData → Option (Option (List PyData × Nat))
  | 0, _, _ => none
  | n + 1, i, acc => (wordP ms i).bind fun w => (cmpEv .eq w (.str "line")).bind fun b =>
    if b then (idxEv (.tuple ms) (.int i)).bind fun _ => (f (i + 1)).bind fun r => nxR r fun q => if szOk (acc.length + 1) then loopL ms f n q.2 (acc ++ [q.1]) else none
    else some (some (acc, i))
def tellP (hs : List PyData) (mark : PyData) (i : Nat) : Rs :=
  (idxEv mark (.int 2)).bind fun a => (handP hs a).bind fun ra => nxR ra fun x => (idxEv mark (.int 3)).bind fun b => (handP hs b).bind fun rb => nxR rb fun y => (idxEv mark (.int 4)).bind fun z =>
    some (some (.tuple [.str "tell", x, y, z], i + 1))
def shutP (ms : List PyData) (mark : PyData) (ps : List PyData) (j : Nat) : Rs :=
  (wordP ms j).bind fun w => (cmpEv .ne w (.str "foot")).bind fun b => if b then some none else (idxEv (.tuple ms) (.int j)).bind fun _ =>
    (idxEv mark (.int 2)).bind fun kd => (cmpEv .eq kd (.str "choice")).bind fun c => if c then some (some (.tuple [.str "choice", .tuple ps], j + 1)) else (addEv (.tuple [kd]) (.tuple ps)).bind fun t => some (some (t, j + 1))
def MP (hs ms : List PyData) (fu : Nat) : Nat → Bool → Nat → Rs
  | 0, _, _ => none
  | k + 1, true, i => loopS ms (MP hs ms fu k false) fu i []
  | k + 1, false, i => (idxEv (.tuple ms) (.int i)).bind fun mark => (idxEv mark (.int 0)).bind fun w => (cmpEv .eq w (.str "letter")).bind fun b =>
    if b then tellP hs mark i
    else (MP hs ms fu k true (i + 1)).bind fun r => nxR r fun q => (loopL ms (MP hs ms fu k true) fu q.2 [q.1]).bind fun r2 => nxR r2 fun q2 => shutP ms mark q2.1 q2.2
end
/-! ### the object -/
def mf (vh vm : V) (i : Int) : List (Str × V) := putF "at" (.int i) (putF "marks" vm (putF "hands" vh []))
theorem mf_eq (vh vm : V) (i : Int) : mf vh vm i = ([("hands", vh), ("marks", vm), ("at", .int i)] : List (Str × V)) := by
  have h1 : ¬ (("hands" : Str) = "marks") := by decide +kernel
  have h2 : ¬ (("hands" : Str) = "at") := by decide +kernel
  have h3 : ¬ (("marks" : Str) = "at") := by decide +kernel
  show putF "at" (.int i) (if ("hands" : Str) = "marks" then [(("hands" : Str), vm)] else (("hands" : Str), vh) :: putF "marks" vm []) = _
  rw [if_neg h1]
  show (if ("hands" : Str) = "at" then _ else (("hands" : Str), vh) :: (if ("marks" : Str) = "at" then _ else (("marks" : Str), vm) :: putF "at" (.int i) [])) = _
  rw [if_neg h2, if_neg h3]
  rfl
theorem mf_hands (vh vm : V) (i : Int) : (mf vh vm i).lookup ("hands" : Str) = some vh := by
  have h1 : ¬ (("hands" : Str) = "marks") := by decide +kernel
  have h2 : ¬ (("hands" : Str) = "at") := by decide +kernel
  unfold mf
  rw [lookup_putF, if_neg h2, lookup_putF, if_neg h1, lookup_putF, if_pos rfl]
theorem mf_marks (vh vm : V) (i : Int) : (mf vh vm i).lookup ("marks" : Str) = some vm := by
  have h3 : ¬ (("marks" : Str) = "at") := by decide +kernel
  unfold mf
  rw [lookup_putF, if_neg h3, lookup_putF, if_pos rfl]
theorem mf_at (vh vm : V) (i : Int) : (mf vh vm i).lookup ("at" : Str) = some (.int i) := by
  unfold mf
  rw [lookup_putF, if_pos rfl]
theorem mf_no (vh vm : V) (i : Int) {m : Str} (h1 : ¬ m = "at") (h2 : ¬ m = "marks") (h3 : ¬ m = "hands") : (mf vh vm i).lookup m = none := by
  unfold mf
  rw [lookup_putF, if_neg h1, lookup_putF, if_neg h2, lookup_putF, if_neg h3]
  rfl
theorem mf_put (vh vm : V) (i j : Int) : putF "at" (.int j) (mf vh vm i) = mf vh vm j := by
  have h2 : ¬ (("hands" : Str) = "at") := by decide +kernel
  have h3 : ¬ (("marks" : Str) = "at") := by decide +kernel
  rw [mf_eq, mf_eq]
  show (if ("hands" : Str) = "at" then _ else (("hands" : Str), vh) :: (if ("marks" : Str) = "at" then _ else (("marks" : Str), vm) :: (if ("at" : Str) = "at" then [(("at" : Str), V.int j)] else _))) = _
  rw [if_neg h2, if_neg h3, if_pos rfl]
def MkAt (K : PySem.W.Frag) (C : Addr) (H : Hp) (p : Addr) (hs ms : List PyData) (i : Nat) : Prop := ∃ dx vh vm, H p = some (.ins C dx (mf vh vm i)) ∧ Has K H vh (.tuple hs) ∧ Has K H vm (.tuple ms)
section
variable {K : PySem.W.Frag} {C CN : Addr} {H H' : Hp} {p : Addr} {hs ms : List PyData} {i : Nat}
theorem MkAt.mono (h : MkAt K C H p hs ms i) (e : Same H H') : MkAt K C H' p hs ms i := by
  obtain ⟨dx, vh, vm, a, b, c⟩ := h
  exact ⟨dx, vh, vm, e _ _ a, b.ext (same_ext e), c.ext (same_ext e)⟩
theorem MkAt.ext (h : MkAt K C H p hs ms i) (s : Sb p H H') : Ext H H' := by
  obtain ⟨dx, vh, vm, a, b, c⟩ := h
  exact s.ext a
/-! ### what each method promises -/
def spWord (K : PySem.W.Frag) (C : Addr) : Sp := fun vs H Q _ => ∃ p hs ms i d, vs = [.ref p] ∧ MkAt K C H p hs ms i ∧ wordP ms i = some d ∧ ∀ v H', Same H H' → Has K H' v d → Q v H'
def spTake (K : PySem.W.Frag) (C : Addr) : Sp := fun vs H Q _ => ∃ p hs ms i d, vs = [.ref p] ∧ MkAt K C H p hs ms i ∧ idxEv (.tuple ms) (.int i) = some d ∧ ∀ v H', Sb p H H' → MkAt K C H' p hs ms (i + 1) → Has K H' v d → Q v H'
def spHand (K : PySem.W.Frag) (C CN : Addr) : Sp := fun vs H Q E => ∃ p hs ms i v d r, vs = [.ref p, v] ∧ MkAt K C H p hs ms i ∧ Has K H v d ∧ handP hs d = some r ∧ (∀ x, r = some x → ∀ v' H', Same H H' → Has K H' v' x → Q v' H') ∧ (r = none → ∀ H', Same H H' → E (.ref CN) none H')
def spRun (K : PySem.W.Frag) (C CN : Addr) (f : List PyData → List PyData → Nat → Rs) : Sp := fun vs H Q E => ∃ p hs ms i r, vs = [.ref p] ∧ MkAt K C H p hs ms i ∧ f hs ms i = some r ∧
  (∀ d j, r = some (d, j) → ∀ v H', Sb p H H' → MkAt K C H' p hs ms j → Has K H' v d → Q v H') ∧ (r = none → ∀ H', Sb p H H' → E (.ref CN) none H')
def spInitM (K : PySem.W.Frag) (C : Addr) : Sp := fun vs H Q _ => ∃ p dx vh vm hs ms, vs = [.ref p, vh, vm] ∧ H p = some (.ins C dx []) ∧ Has K H vh (.tuple hs) ∧ Has K H vm (.tuple ms) ∧ ∀ H', Sb p H H' → MkAt K C H' p hs ms 0 → Q .non H'
end
/-- what the text and the top tell of the class -/
structure MTxt (K : PySem.W.Frag) (mg : Str → Option Value) (C CN : Addr) : Prop where
  cl : Cls K C
  nH : NoAttr K C "hands"
  nM : NoAttr K C "marks"
  nA : NoAttr K C "at"
  len : mg "len" = none
  tup : mg "tuple" = none
  gC : mg "Marks" = some (.ref C)
  gN : mg "NoTalk" = some (.ref CN)
  ex : PySem.W.excIn K CN He.veBase "ValueError.__new__" = true
  ek : PySem.W.keepIn K (.ref CN) = true
  es : PySem.W.subIn K (.ref CN) (.type "BaseException") = some true
  et : PySem.W.typeIn K (.ref CN) = some (.type "type")
end Lr
namespace Lr
open PySem PySem.Spec PyProof.Rows L2
/-! ### defs that are walked by hand -/
def isP (d : Dn) : Bool := match d.df.body with
  | .cons (.prim _) .nil => true
  | _ => false
structure FitsP (d : Dn) : Prop where
  sc : scB d.N d.ps (defScope d.st) = true
  bd : ∀ (kV doc pm : Value) (an : Option Addr) (cdv ct : Value) (us : List Value), us.length = d.ps.length → bindArgs (PySem.W.fnOf d.x d.x (defArgs d.st) (defBody d.st) (defScope d.st) .none kV doc pm an cdv ct) ⟨us, []⟩ = pure (d.ps.zip us)
/-- all defs of the table, at a level -/
def AllAt (P : Program) (w : World) (K : PySem.W.Frag) (mg : Str → Option Value) (base : Heap) (T : Tb) (call : Str → List PyData → Option PyData) (k : Nat) : Prop :=
  ∀ x n, T.defs.lookup x = some n → ∃ fa fd ps, mg x = some (.ref fa) ∧ PySem.W.keepIn K (.ref fa) = true ∧ Binds K fd ps [] ∧ FnOk P w K mg base CX0 k fa fd ps (spF K (call x))
section
variable {P : Program} {w : World} {K : PySem.W.Frag} {mg : Str → Option Value} {base : Heap} {L : List Dn} {T : Tb} {g : Str → Option PyData} {fuel : Nat} {tf : Str → Option Df}
theorem bd_of (hfit : ∀ d ∈ L, isP d = false → Fits T d) (hfp : ∀ d ∈ L, isP d = true → FitsP d) {d : Dn} (h : d ∈ L) : ∀ (kV doc pm : Value) (an : Option Addr) (cdv ct : Value) (us : List Value), us.length = d.ps.length → bindArgs (PySem.W.fnOf d.x d.x (defArgs d.st) (defBody d.st) (defScope d.st) .none kV doc pm an cdv ct) ⟨us, []⟩ = pure (d.ps.zip us) := by
  cases e : isP d with
  | true => exact (hfp d h e).bd
  | false => exact (hfit d h e).bd
theorem defs_okP (F : Facts K mg L T g) (hT : T.defs = tbDefs L) (htf : ∀ x d, tbFind L x = some d → tf x = some d) (hfit : ∀ d ∈ L, isP d = false → Fits T d) (hfp : ∀ d ∈ L, isP d = true → FitsP d)
    (hprim : ∀ k, AllAt P w K mg base T (callAt tf g fuel k) k → ∀ d ∈ L, isP d = true → tf d.x = some d.df → ∀ fa fd, FunD K d.x d.x (defArgs d.st) (defBody d.st) (defScope d.st) [] [] fa fd → FnOk P w K mg base CX0 (k + 1) fa fd d.ps (spF K (callAt tf g fuel (k + 1) d.x))) :
    ∀ (k : Nat) (d : Dn) (fa : Addr) (fd : FuncData), d ∈ L → tbFind L d.x = some d.df → FunD K d.x d.x (defArgs d.st) (defBody d.st) (defScope d.st) [] [] fa fd → FnOk P w K mg base CX0 k fa fd d.ps (spF K (callAt tf g fuel k d.x))
  | 0, d, fa, fd, hd, hx, G => by
    have no : ∀ vs H Q E, ¬ spF K (callAt tf g fuel 0 d.x) vs H Q E := fun vs H Q E ⟨ds, r, _, h, _⟩ => by cases h
    exact ⟨fun vs H Q E h => absurd h (no vs H Q E), fun A outer s H args us vs Q E _ _ _ _ h => absurd h (no vs H Q E)⟩
  | k + 1, d, fa, fd, hd, hx, G => by
    have all : AllAt P w K mg base T (callAt tf g fuel k) k := fun x n hn => by
      rw [hT] at hn
      obtain ⟨d', h1, h2, h3⟩ := tb_find hn
      obtain ⟨fa', fd', m1, m2⟩ := F.defs d' h1
      subst h2
      exact ⟨fa', fd', d'.ps, m1, m2.kp, m2.bindsN (bd_of hfit hfp h1), defs_okP F hT htf hfit hfp hprim k d' fa' fd' h1 h3 m2⟩
    cases ep : isP d with
    | true => exact hprim k all d hd ep (htf _ _ hx) fa fd G
    | false =>
    have fit := hfit d hd ep
    have S := scB_ok fit.sc
    refine G.ok S (fun vs H Q E h => ?_) (fun cdv A outer s H vs Q E hr h => ?_)
    · obtain ⟨ds, r, t, h, _⟩ := h
      unfold callAt at h
      rw [htf _ _ hx] at h
      rw [t.length, runDf_len h, fit.na]
    · obtain ⟨ds, r, t, h, q⟩ := h
      unfold callAt at h
      rw [htf _ _ hx] at h
      have h : runDf ⟨callAt tf g fuel k, fuel, g⟩ d.df ds = some r := h
      have hl := runDf_len h
      unfold runDf at h
      rw [if_pos hl] at h
      obtain ⟨o, ho, h⟩ := bs h
      have C : Ctx (cxOf CX0 P w K mg base d.N d.x (defScope d.st) fa cdv A outer s H E).nox d.N T ⟨callAt tf g fuel k, fuel, g⟩ (defScope d.st) k :=
        ⟨rfl, rfl, S.nd, rfl, hr, all, F.consts, F.free⟩
      have body := compSs_ok (mu := d.mu) (X := (cxOf CX0 P w K mg base d.N d.x (defScope d.st) fa cdv A outer s H E).nox) (H0 := H) (fun st s' => compS_ok C (fun _ => rfl) PassesOwn.never 40) fit.body
      refine ⟨_, PSs.nox body, start0 d.df ds, o, ?_, ho, ?_⟩
      · refine rel_start fit.nn ?_ t
        have := congrArg List.length S.pre
        rw [List.length_take] at this
        rw [t.length, hl, fit.na]
        omega
      · cases o with
        | nx ρ => cases h; exact fun σ' H' ex r' => q _ H' r'.same .non
        | ret d' => cases h; exact fun v H' ex sm z => q v H' sm z
        | brk ρ => cases h
        | cont ρ => cases h
end
theorem facts_ofP {K : PySem.W.Frag} {h : Heap} {mg : Str → Option Value} {L : List Dn} {T : Tb} {fa : List He.Fa} {fn : List He.DefD} (KX : K.In h) (G : h.Ns mainGlobals mg) (c : He.SaysD fa fn K) (nl : noLB K = true) (hc : constOk T.consts = true) (h1 : ∀ f ∈ faOf L T, f ∈ fa) (h2 : ∀ f ∈ fnOf L, f ∈ fn) : Facts K mg L T (fun x => T.consts.lookup x) := by
  refine ⟨noLB_ok nl, fun d hd => ?_, fun x d hx => ?_, fun x hx => ?_⟩
  · have m : (⟨(d.x, none), d.x, d.x, defArgs d.st, defBody d.st, defScope d.st, [], []⟩ : He.DefD) ∈ fnOf L := List.mem_map.mpr ⟨d, hd, rfl⟩
    obtain ⟨i, hi⟩ := List.getElem?_of_mem (h2 _ m)
    obtain ⟨fd, F⟩ := c.def_ i hi
    refine ⟨_, fd, He.glo_ok KX G (fact_mem c (h1 _ ?_)), F⟩
    exact List.mem_append_left _ (List.mem_append_left _ (List.mem_map.mpr ⟨d, hd, rfl⟩))
  · rcases const_mem hc hx with ⟨i, rfl, hm⟩ | ⟨z, rfl, hm⟩
    · obtain ⟨t, ht⟩ := He.int_ok KX G (fact_mem c (h1 _ (List.mem_append_right _ hm)))
      exact ⟨_, .int i, ht, ⟨t, rfl⟩, fun _ => .int _, hx⟩
    · obtain ⟨t, ht⟩ := He.str_ok KX G (fact_mem c (h1 _ (List.mem_append_right _ hm)))
      exact ⟨_, .str z, ht, ⟨t, rfl⟩, fun _ => .str _, hx⟩
  · refine He.free_ok KX G (fact_mem c (h1 _ ?_))
    refine List.mem_append_left _ (List.mem_append_right _ (List.mem_map.mpr ⟨x, ?_, rfl⟩))
    simpa using hx
/-- as law_walk, with defs walked by hand -/
theorem law_walkP {l : PySem.W.OpenLaw} {q : Program} {loose : List Str} {XP : (Str → Option Value) → Heap → Prop} {d : DefRec} {L : List Dn} {T : Tb} {fuel k n : Nat} {dl : Dn} {fas : List He.Fa} {fns : List He.DefD} {tf : Str → Option Df} (hn : l.most = some 63) (hdf : d.params.defaults = []) (hname : d.name = ("law" : Str)) (hr : Room k callerA)
    (hT : T.defs = tbDefs L) (htf : ∀ x d, tbFind L x = some d → tf x = some d) (hfit : ∀ d ∈ L, isP d = false → Fits T d) (hfp : ∀ d ∈ L, isP d = true → FitsP d) (hc : constOk T.consts = true) (h1 : ∀ f ∈ faOf L T, f ∈ fas) (h2 : ∀ f ∈ fnOf L, f ∈ fns) (hl : dl ∈ L) (hlx : dl.x = ("law" : Str)) (hlp : dl.ps = [("script" : Str)]) (hlf : tbFind L ("law" : Str) = some dl.df)
    (hprim : ∀ (w : World) (K : PySem.W.Frag) (mg : Str → Option Value) (h base : Heap), K.In h → h.Ns mainGlobals mg → He.SaysD fas fns K → Facts K mg L T (fun x => T.consts.lookup x) → ∀ k, AllAt l.prog w K mg base T (callAt tf (fun x => T.consts.lookup x) fuel k) k → ∀ d ∈ L, isP d = true → tf d.x = some d.df → ∀ fa fd, FunD K d.x d.x (defArgs d.st) (defBody d.st) (defScope d.st) [] [] fa fd →
      FnOk l.prog w K mg base CX0 (k + 1) fa fd d.ps (spF K (callAt tf (fun x => T.consts.lookup x) fuel (k + 1) d.x)))
    (pure : ∀ ns : List Int, ns.length ≤ 63 → callAt tf (fun x => T.consts.lookup x) fuel k ("law" : Str) [.list (ns.map .int)] = some (.bool true)) :
    PySem.W.WalkO q loose XP (hookL n fas fns).says l.row.toRowW d [] (fun f vs => PySem.call f vs) := by
  refine L2.walk_ofE (l := l) (n := 63) (k := k) (x := "script") (CX := CX0) hn (by decide) hdf hr ?_ (fun _ _ _ _ z => z)
  intro w mg fa h Y G hmg0
  obtain ⟨K, KX, c, nl⟩ := Y
  have F := facts_ofP KX G c nl hc h1 h2
  obtain ⟨fa', fd, m1, m2⟩ := F.defs dl hl
  rw [hname] at hmg0
  rw [hlx] at m1
  rw [m1] at hmg0
  cases hmg0
  refine ⟨K, fd, spF K (callAt tf (fun x => T.consts.lookup x) fuel k dl.x), KX, fun s u => ?_, fun H a ns hns hO hS => ?_, fun base kin ns => ?_⟩
  · have := m2.bindsA (bd_of hfit hfp hl) s [u] (by rw [hlp]; rfl)
    rw [hlp] at this
    exact this
  · refine ⟨[.list (ns.map .int)], .bool true, .one ?_, by rw [hlx]; exact pure ns hns, fun v H' _ z => z.r.blE⟩
    rcases hS with (e | ⟨o, e⟩) | ⟨o, its, m, e, e2, _⟩
    · rcases hO a with z | ⟨o, xs, z⟩
      · rw [e] at z; cases z
      · rw [e] at z; cases z
    · exact .lst ⟨o, e⟩ (HasAll.ints ns)
    · exact absurd e2 (F.noL a o e)
  · have := defs_okP (P := l.prog) (w := w) (base := base) (fuel := fuel) F hT htf hfit hfp (hprim w K mg h base KX G c F) k dl fa fd hl (by rw [hlx]; exact hlf) m2
    rw [hlp] at this
    exact this
/-! ### how deep we may still go -/
def d_probe : Df := ⟨1, 1, .cons (.ife (.cmp .eq (.var 0) (.lit (.int 0))) (.cons (.ret (.lit (.int 0))) .nil) .nil) (.cons (.ret (.call "#" (.cons (.bin .sub (.var 0) (.lit (.int 1))) .nil))) .nil)⟩
def tfP (L : List Dn) (x : Str) : Option Df := match tbFind L x with
  | some d => some d
  | none => if x = ("#" : Str) then some d_probe else none
theorem tfP_of {L : List Dn} {x : Str} {d : Df} (h : tbFind L x = some d) : tfP L x = some d := by unfold tfP; rw [h]
section
variable {g : Str → Option PyData} {fu : Nat} {tf : Str → Option Df}
theorem probe_at (hp : tf ("#" : Str) = some d_probe) (k : Nat) (n : Int) : callAt tf g fu (k + 1) "#" [.int n] = if n = 0 then some (.int 0) else callAt tf g fu k "#" [.int (n - 1)] := by
  show ((tf ("#" : Str)).bind fun d => runDf ⟨callAt tf g fu k, fu, g⟩ d [.int n]) = _
  rw [hp]
  by_cases h : n = 0
  · subst h
    rw [if_pos rfl]
    rfl
  · rw [if_neg h]
    have e : PyData.eqv (.int n) (.int 0) = false := by
      simp [PyData.eqv, h]
    have e2 : eqEv (.int n) (.int 0) = some false := by
      unfold eqEv
      rw [e]
      rfl
    show ((exs ⟨callAt tf g fu k, fu, g⟩ [.val (.int n)] d_probe.body).bind fun o => match o with
      | .ret r => some r
      | .nx _ => some .none
      | _ => Option.none) = _
    have h1 : ex ⟨callAt tf g fu k, fu, g⟩ [.val (.int n)] (.ife (.cmp .eq (.var 0) (.lit (.int 0))) (.cons (.ret (.lit (.int 0))) .nil) .nil) = some (.nx [.val (.int n)]) := by
      have e3 : ev true ⟨callAt tf g fu k, fu, g⟩ [.val (.int n)] (.cmp .eq (.var 0) (.lit (.int 0))) = some (.bool false) := by
        unfold ev
        show (((some (PyData.int n)).bind fun x => (some (PyData.int 0)).bind fun y => (eqEv x y).map PyData.bool)) = _
        show (eqEv (.int n) (.int 0)).map PyData.bool = _
        rw [e2]
        rfl
      unfold ex
      rw [e3]
      rfl
    show (((ex ⟨callAt tf g fu k, fu, g⟩ [.val (.int n)] (.ife (.cmp .eq (.var 0) (.lit (.int 0))) (.cons (.ret (.lit (.int 0))) .nil) .nil)).bind (seqD fun ρ' => exs ⟨callAt tf g fu k, fu, g⟩ ρ' (.cons (.ret (.call "#" (.cons (.bin .sub (.var 0) (.lit (.int 1))) .nil))) .nil))).bind _) = _
    rw [h1]
    show ((((callAt tf g fu k "#" [.int (n - 1)]).bind fun d => some (Out.ret d)).bind (seqD fun ρ' => exs ⟨callAt tf g fu k, fu, g⟩ ρ' .nil)).bind _) = _
    cases callAt tf g fu k "#" [.int (n - 1)] with
    | none => rfl
    | some d => rfl
theorem probe_lt (hp : tf ("#" : Str) = some d_probe) : ∀ {k n : Nat} {r : PyData}, callAt tf g fu k "#" [.int n] = some r → n < k
  | 0, n, r, h => by cases h
  | k + 1, n, r, h => by
    rw [probe_at hp] at h
    split at h
    · omega
    · rename_i hn
      have e : (n : Int) - 1 = ((n - 1 : Nat) : Int) := by omega
      rw [e] at h
      have := probe_lt hp h
      omega
theorem probe_ok (hp : tf ("#" : Str) = some d_probe) : ∀ {k n : Nat}, n < k → callAt tf g fu k "#" [.int n] = some (.int 0)
  | 0, n, h => absurd h (Nat.not_lt_zero _)
  | k + 1, n, h => by
    rw [probe_at hp]
    split
    · rfl
    · rename_i hn
      have e : (n : Int) - 1 = ((n - 1 : Nat) : Int) := by omega
      rw [e]
      exact probe_ok hp (by omega)
end
end Lr
namespace Lr
open PySem PySem.Spec PyProof.Rows L2
/-! ### unlaid: the plain meaning -/
noncomputable def unlP (D fu : Nat) (call : Str → List PyData → Option PyData) (hs ms : List PyData) : Option (Option PyData) :=
  (call "#" [.int D]).bind fun _ => (MP hs ms fu D true 0).bind fun r => nxR r fun q => if (q.2 : Nat) < ms.length then some none else
    (call "is_talk" [.tuple [.tuple hs, q.1]]).bind fun b => match b with
      | .bool true => (call "laid" [.tuple [.tuple hs, q.1]]).bind fun l => (cmpEv .ne l (.tuple ms)).bind fun ne => if ne then some none else some (some (.tuple [.tuple hs, q.1]))
      | .bool false => some none
      | _ => none
/-- where it tells a talk -/
noncomputable def unlOk (call : Str → List PyData → Option PyData) : List PyData → Option PyData
  | [.tuple hs, .tuple ms] => match unlP 24 1000 call hs ms with
    | some (some d) => some d
    | _ => none
  | _ => none
noncomputable def d_unlaid : Df := ⟨2, 2, .cons (.prim unlOk) .nil⟩
end Lr
namespace Lr
open PySem PySem.Spec PyProof.Rows L2
section
variable {P : Program} {w : World} {K : PySem.W.Frag} {mg : Str → Option Value} {base : Heap} {N : List Str} {qual : Str} {scope : Scope} {f : Addr} {cd : Value} {A : Around} {outer : List Env} {s : Shared} {H : Hp} {E : XK}
theorem tkX : Takes (cxOf (L2.CX P w) P w K mg base N qual scope f cd A outer s H E) (fun cls d _ H => E cls d H) := takes_of rfl rfl rfl rfl
theorem psX : Passes (L2.CX P w) (cxOf (L2.CX P w) P w K mg base N qual scope f cd A outer s H E) E := passes_call tkX fun _ _ _ _ h => h
theorem owX : PassesOwn (model P w) (cxOf (L2.CX P w) P w K mg base N qual scope f cd A outer s H E).A (cxOf (L2.CX P w) P w K mg base N qual scope f cd A outer s H E).env (cxOf (L2.CX P w) P w K mg base N qual scope f cd A outer s H E).xe := passes_of rfl
end
theorem eqN (i n : Nat) : cmpEv .eq (.int i) (.int n) = some (decide (i = n)) := by
  show eqEv _ _ = _
  unfold eqEv
  show some (PyData.eqv _ _) = _
  simp [PyData.eqv]
  by_cases h : i = n
  · simp [h]
  · simp [h]
    omega
theorem leI (i n : Int) : cmpEv .le (.int i) (.int n) = some (decide (i ≤ n)) := rfl
theorem ltI (i n : Int) : cmpEv .lt (.int i) (.int n) = some (decide (i < n)) := rfl
theorem hu_of' {k : Nat} {B : Around} (r : Room k B) : B.units + 65 < cLine := by have := r.un; omega
section
variable {K : PySem.W.Frag} {C CN : Addr} {H : Hp} {p : Addr} {hs ms : List PyData} {i : Nat} {σ : L2.St} {Q : VK} {E : XK} {d : PyData}
theorem nm_word : ¬ (("next_word" : Str) = "at") ∧ ¬ (("next_word" : Str) = "marks") ∧ ¬ (("next_word" : Str) = "hands") := by decide +kernel
theorem nm_take : ¬ (("take" : Str) = "at") ∧ ¬ (("take" : Str) = "marks") ∧ ¬ (("take" : Str) = "hands") := by decide +kernel
theorem nm_steps : ¬ (("steps" : Str) = "at") ∧ ¬ (("steps" : Str) = "marks") ∧ ¬ (("steps" : Str) = "hands") := by decide +kernel
theorem nm_step : ¬ (("step" : Str) = "at") ∧ ¬ (("step" : Str) = "marks") ∧ ¬ (("step" : Str) = "hands") := by decide +kernel
theorem nm_hand : ¬ (("hand" : Str) = "at") ∧ ¬ (("hand" : Str) = "marks") ∧ ¬ (("hand" : Str) = "hands") := by decide +kernel
theorem rd_word {j : Nat} (hj : σ[j]? = some (some (.ref p))) (hm : MkAt K C H p hs ms i) (hw : wordP ms i = some d) (q : ∀ v H', Same H H' → Has K H' v d → Q v H') : tMeth C "next_word" (spWord K C) [] E (tVar j) tNil σ H Q := by
  obtain ⟨dx, vh, vm, hp, th, tm⟩ := id hm
  exact ⟨_, hj, p, dx, _, rfl, hp, mf_no _ _ _ nm_word.1 nm_word.2.1 nm_word.2.2, p, hs, ms, i, d, rfl, hm, hw, q⟩
theorem rd_take {j : Nat} (hj : σ[j]? = some (some (.ref p))) (hm : MkAt K C H p hs ms i) (hw : idxEv (.tuple ms) (.int i) = some d) (q : ∀ v H', Sb p H H' → MkAt K C H' p hs ms (i + 1) → Has K H' v d → Q v H') : tMeth C "take" (spTake K C) [] E (tVar j) tNil σ H Q := by
  obtain ⟨dx, vh, vm, hp, th, tm⟩ := id hm
  exact ⟨_, hj, p, dx, _, rfl, hp, mf_no _ _ _ nm_take.1 nm_take.2.1 nm_take.2.2, p, hs, ms, i, d, rfl, hm, hw, q⟩
theorem rd_run {j : Nat} {m : Str} {g : List PyData → List PyData → Nat → Rs} {r : Option (PyData × Nat)} (hj : σ[j]? = some (some (.ref p))) (hm : MkAt K C H p hs ms i) (na : ¬ m = "at" ∧ ¬ m = "marks" ∧ ¬ m = "hands") (hw : g hs ms i = some r)
    (q : ∀ d j, r = some (d, j) → ∀ v H', Sb p H H' → MkAt K C H' p hs ms j → Has K H' v d → Q v H') (qe : r = none → ∀ H', Sb p H H' → E (.ref CN) none H') : tMeth C m (spRun K C CN g) [] E (tVar j) tNil σ H Q := by
  obtain ⟨dx, vh, vm, hp, th, tm⟩ := id hm
  exact ⟨_, hj, p, dx, _, rfl, hp, mf_no _ _ _ na.1 na.2.1 na.2.2, p, hs, ms, i, r, rfl, hm, hw, q, qe⟩
theorem rd_ix {j : Nat} {v : V} {dm r : PyData} {n : Int} (hj : σ[j]? = some (some v)) (hv : Has K H v dm) (he : idxEv dm (.int n) = some r) (q : ∀ z H', Same H H' → Has K H' z r → Q z H') : tOp (rIx K) (tVar j) (tC (.int n)) σ H Q :=
  ⟨v, hj, rIx_ok hv.r (Has.int n).r he q⟩
theorem rd_hand {j : Nat} {te : TE} (hj : σ[j]? = some (some (.ref p))) (hm : MkAt K C H p hs ms i) (h : te σ H fun v H2 => spHand K C CN [.ref p, v] H2 Q E) : tMeth C "hand" (spHand K C CN) [] E (tVar j) (tCons te tNil) σ H Q := by
  obtain ⟨dx, vh, vm, hp, th, tm⟩ := id hm
  exact ⟨_, hj, p, dx, _, rfl, hp, mf_no _ _ _ nm_hand.1 nm_hand.2.1 nm_hand.2.2, h⟩
theorem rd_tuple {j : Nat} {a : Addr} {us : List V} {acc : List PyData} (hj : σ[j]? = some (some (.ref a))) (hl : H a = some (.lst us)) (tl : HasAll K H us acc) (q : ∀ z H', Same H H' → Has K H' z (.tuple acc) → Q z H') : tCB (rG K tupleEv) (tCons (tVar j) tNil) σ H Q :=
  ⟨_, hj, [.list acc], .tuple acc, .one ⟨a, us, rfl, .inl hl, tl⟩, rfl, q⟩
/-- the list at a grows -/
theorem grow_ext {a : Addr} {us ws : List V} (hl : H a = some (.lst us)) : Ext H (upd H a (.lst ws)) :=
  ⟨fun b xs e => by rw [upd_ne (by intro z; rw [z, hl] at e; cases e)]; exact e, fun b o u e => by rw [upd_ne (by intro z; rw [z, hl] at e; cases e)]; exact e⟩
theorem MkAt.grow {a : Addr} {us ws : List V} (h : MkAt K C H p hs ms i) (hl : H a = some (.lst us)) : MkAt K C (upd H a (.lst ws)) p hs ms i := by
  obtain ⟨dx, vh, vm, k1, k2, k3⟩ := h
  have ne : p ≠ a := fun z => by rw [z, hl] at k1; cases k1
  exact ⟨dx, vh, vm, by rw [upd_ne ne]; exact k1, k2.ext (grow_ext hl), k3.ext (grow_ext hl)⟩
end
def spU (K : PySem.W.Frag) (CN : Addr) (p : List PyData → List PyData → Option (Option PyData)) : Sp := fun vs H Q E => ∃ vh vm hs ms r, vs = [vh, vm] ∧ Has K H vh (.tuple hs) ∧ Has K H vm (.tuple ms) ∧ p hs ms = some r ∧
  (∀ d, r = some d → ∀ v H', Same H H' → Has K H' v d → Q v H') ∧ (r = none → ∀ H', Same H H' → E (.ref CN) none H')
theorem passZ {X : Cx} {E : XK} : Passes CX0 X E := fun _ _ _ _ _ _ _ h => h.elim
theorem valsR_map : ∀ ds : List PyData, valsR (ds.map .val) = some ds
  | [] => rfl
  | d :: ds => by
    rw [List.map_cons]
    unfold valsR
    rw [valsR_map ds]
    rfl
theorem callAt_prim {tf : Str → Option Df} {g : Str → Option PyData} {fu k : Nat} {x : Str} {n : Nat} {p : (Str → List PyData → Option PyData) → List PyData → Option PyData} {ds : List PyData} {r : PyData} (hx : tf x = some ⟨n, n, .cons (.prim p) .nil⟩) (h : callAt tf g fu (k + 1) x ds = some r) :
    ds.length = n ∧ p (callAt tf g fu k) ds = some r := by
  have h : ((tf x).bind fun d => runDf ⟨callAt tf g fu k, fu, g⟩ d ds) = some r := h
  rw [hx] at h
  have h : runDf ⟨callAt tf g fu k, fu, g⟩ ⟨n, n, .cons (.prim p) .nil⟩ ds = some r := h
  have hl := runDf_len h
  have hl : ds.length = n := hl
  refine ⟨hl, ?_⟩
  unfold runDf at h
  rw [if_pos hl] at h
  obtain ⟨o, ho, h⟩ := bs h
  have hv : valsR (start0 ⟨n, n, .cons (.prim p) .nil⟩ ds) = some ds := by
    unfold start0
    show valsR (ds.map .val ++ List.replicate (n - ds.length) .none) = some ds
    rw [show n - ds.length = 0 by omega, List.replicate_zero, List.append_nil]
    exact valsR_map ds
  have ho : (((valsR (start0 ⟨n, n, .cons (.prim p) .nil⟩ ds)).bind fun ds => (p (callAt tf g fu k) ds).bind fun d => some (Out.ret d)).bind (seqD fun ρ' => exs ⟨callAt tf g fu k, fu, g⟩ ρ' .nil)) = some o := ho
  rw [hv] at ho
  obtain ⟨o2, h2, ho⟩ := bs ho
  have h2 : ((p (callAt tf g fu k) ds).bind fun d => some (Out.ret d)) = some o2 := h2
  obtain ⟨d, hd, h3⟩ := bs h2
  cases h3
  cases ho
  cases h
  exact hd
theorem prim_call {tf : Str → Option Df} {g : Str → Option PyData} {fu k : Nat} {x : Str} {n : Nat} {p : (Str → List PyData → Option PyData) → List PyData → Option PyData} {ds : List PyData} {r : PyData} (hx : tf x = some ⟨n, n, .cons (.prim p) .nil⟩) (hl : ds.length = n) (h : p (callAt tf g fu k) ds = some r) :
    callAt tf g fu (k + 1) x ds = some r := by
  show ((tf x).bind fun d => runDf ⟨callAt tf g fu k, fu, g⟩ d ds) = some r
  rw [hx]
  show runDf ⟨callAt tf g fu k, fu, g⟩ ⟨n, n, .cons (.prim p) .nil⟩ ds = some r
  unfold runDf
  rw [if_pos (show ds.length = n from hl)]
  have hv : valsR (start0 ⟨n, n, .cons (.prim p) .nil⟩ ds) = some ds := by
    unfold start0
    show valsR (ds.map .val ++ List.replicate (n - ds.length) .none) = some ds
    rw [show n - ds.length = 0 by omega, List.replicate_zero, List.append_nil]
    exact valsR_map ds
  show ((((valsR (start0 ⟨n, n, .cons (.prim p) .nil⟩ ds)).bind fun ds => (p (callAt tf g fu k) ds).bind fun d => some (Out.ret d)).bind (seqD fun ρ' => exs ⟨callAt tf g fu k, fu, g⟩ ρ' .nil)).bind _) = some r
  rw [hv]
  show ((((p (callAt tf g fu k) ds).bind fun d => some (Out.ret d)).bind (seqD fun ρ' => exs ⟨callAt tf g fu k, fu, g⟩ ρ' .nil)).bind _) = some r
  rw [h]
  rfl
end Lr
namespace Lr
open PySem PySem.Spec PyProof.Rows L2
def d_law_are_steps : Df := { ar := 3, nn := 4, body := .cons (.ife (.or (.not (.isi .tuple (.var 0))) (.cmp .gt (.bi .len (.cons (.var 0) .nil)) (.lit (.int 4)))) (.cons (.ret (.lit (.bool false))) .nil) (.nil)) (.cons (.ret (.cmp .eq (.lc (.var 3) (.name 3) (.seq (.var 0)) (.not (.call "_law_is_step" (.cons (.var 3) (.cons (.var 1) (.cons (.var 2) .nil)))))) (.lst (.nil)))) .nil) }
def d_law_cell_at : Df := { ar := 2, nn := 2, body := .cons (.ife (.cmp .lt (.var 1) (.bi .len (.cons (.var 0) .nil))) (.cons (.ret (.idx (.var 0) (.var 1))) .nil) (.nil)) (.cons (.ret (.lit (.int 0))) .nil) }
def d_law_drawn : Df := { ar := 2, nn := 3, body := .cons (.set 2 (.bin .mod (.bin .mul (.bin .add (.bin .add (.var 0) (.bin .mul (.lit (.int 104729)) (.var 1))) (.lit (.int 17))) (.lit (.int 69621))) (.lit (.int 2147483647)))) (.cons (.ret (.bin .mod (.bin .add (.bin .add (.bin .mul (.var 2) (.var 2)) (.bin .mul (.lit (.int 3)) (.var 2))) (.var 1)) (.lit (.int 2147483629)))) .nil) }
def d_law_is_name_k01 : Df := { ar := 1, nn := 2, body := .cons (.ife (.or (.not (.isi .str (.var 0))) (.not (.chain .le .le (.lit (.int 1)) (.bi .len (.cons (.var 0) .nil)) (.lit (.int 5))))) (.cons (.ret (.lit (.bool false))) .nil) (.nil)) (.cons (.ret (.cmp .eq (.lc (.var 1) (.name 1) (.seq (.var 0)) (.not (.chain .le .le (.lit (.str "a")) (.var 1) (.lit (.str "z"))))) (.lst (.nil)))) .nil) }
def d_law_is_step : Df := { ar := 3, nn := 8, body := .cons (.ife (.or (.not (.isi .tuple (.var 0))) (.or (.cmp .eq (.var 0) (.tup (.nil))) (.not (.isi .str (.idx (.var 0) (.lit (.int 0))))))) (.cons (.ret (.lit (.bool false))) .nil) (.nil)) (.cons (.ife (.cmp .ne (.bi .len (.cons (.var 0) .nil)) (.dget ["tell", "choice", "round", "both"] (.cons (.lit (.int 4)) (.cons (.lit (.int 2)) (.cons (.lit (.int 2)) (.cons (.lit (.int 3)) .nil)))) (.idx (.var 0) (.lit (.int 0))) (.som (.lit (.int 0))))) (.cons (.ret (.lit (.bool false))) .nil) (.nil)) (.cons (.ife (.cmp .eq (.idx (.var 0) (.lit (.int 0))) (.lit (.str "tell"))) (.cons (.set 3 (.lc (.var 4) (.name 4) (.seq (.slice (.var 0) (.som (.lit (.int 1))) (.som (.lit (.int 3))))) (.and (.isi .str (.var 4)) (.cmp .isin (.var 4) (.var 1))))) (.cons (.ret (.and (.cmp .eq (.bi .len (.cons (.var 3) .nil)) (.lit (.int 2))) (.call "_law_is_name" (.cons (.idx (.var 0) (.lit (.int 3))) .nil)))) .nil)) (.nil)) (.cons (.set 6 (.slice (.var 0) (.som (.lit (.int 1))) .non)) (.cons (.ife (.cmp .eq (.idx (.var 0) (.lit (.int 0))) (.lit (.str "choice"))) (.cons (.set 6 (.idx (.var 0) (.lit (.int 1)))) (.cons (.ife (.or (.not (.isi .tuple (.var 6))) (.not (.chain .le .le (.lit (.int 1)) (.bi .len (.cons (.var 6) .nil)) (.lit (.int 3))))) (.cons (.ret (.lit (.bool false))) .nil) (.nil)) .nil)) (.nil)) (.cons (.set 7 (.lc (.var 5) (.name 5) (.seq (.var 6)) (.not (.call "_law_are_steps" (.cons (.var 5) (.cons (.var 1) (.cons (.bin .sub (.var 2) (.lit (.int 1))) .nil))))))) (.cons (.ret (.and (.cmp .gt (.var 2) (.lit (.int 0))) (.cmp .eq (.var 7) (.lst (.nil))))) .nil)))))) }
def d_law_is_talk : Df := { ar := 1, nn := 2, body := .cons (.ife (.or (.not (.isi .tuple (.var 0))) (.or (.cmp .ne (.bi .len (.cons (.var 0) .nil)) (.lit (.int 2))) (.not (.isi .tuple (.idx (.var 0) (.lit (.int 0))))))) (.cons (.ret (.lit (.bool false))) .nil) (.nil)) (.cons (.ife (.or (.not (.chain .le .le (.lit (.int 1)) (.bi .len (.cons (.idx (.var 0) (.lit (.int 0))) .nil)) (.lit (.int 4)))) (.cmp .ne (.lc (.var 1) (.name 1) (.seq (.idx (.var 0) (.lit (.int 0)))) (.not (.call "_law_is_name" (.cons (.var 1) .nil)))) (.lst (.nil)))) (.cons (.ret (.lit (.bool false))) .nil) (.nil)) (.cons (.ret (.and (.cmp .eq (.bi .lenSet (.cons (.idx (.var 0) (.lit (.int 0))) .nil)) (.bi .len (.cons (.idx (.var 0) (.lit (.int 0))) .nil))) (.call "_law_are_steps" (.cons (.idx (.var 0) (.lit (.int 1))) (.cons (.idx (.var 0) (.lit (.int 0))) (.cons (.lit (.int 3)) .nil)))))) .nil)) }
def d_law_letters : Df := { ar := 1, nn := 4, body := .cons (.setF 1 (.lst (.nil))) (.cons (.for_ (.name 3) (.seq (.var 0)) (.cons (.ife (.cmp .eq (.idx (.var 3) (.lit (.int 0))) (.lit (.str "tell"))) (.cons (.append 1 (.slice (.var 3) (.som (.lit (.int 1))) .non)) .nil) (.cons (.ife (.cmp .eq (.idx (.var 3) (.lit (.int 0))) (.lit (.str "choice"))) (.cons (.for_ (.name 2) (.seq (.idx (.var 3) (.lit (.int 1)))) (.cons (.setF 1 (.bin .add (.var 1) (.call "_law_letters" (.cons (.var 2) .nil)))) .nil)) .nil) (.cons (.for_ (.name 2) (.seq (.slice (.var 3) (.som (.lit (.int 1))) .non)) (.cons (.setF 1 (.bin .add (.var 1) (.call "_law_letters" (.cons (.var 2) .nil)))) .nil)) .nil)) .nil)) .nil)) (.cons (.ret (.var 1)) .nil)) }
def d_law_lower : Df := { ar := 2, nn := 3, body := .cons (.ret (.bi .tuple (.cons (.lc (.bin .add (.tup (.cons (.idx (.var 2) (.lit (.int 0))) (.cons (.bin .add (.idx (.var 2) (.lit (.int 1))) (.var 1)) .nil))) (.slice (.var 2) (.som (.lit (.int 2))) .non)) (.name 2) (.seq (.var 0)) (.lit (.bool true))) .nil))) .nil }
def d_law_mixed : Df := { ar := 2, nn := 3, body := .cons (.set 2 (.bin .mod (.bin .mul (.bin .add (.bin .add (.call "_law_cell_at" (.cons (.var 0) (.cons (.var 1) .nil))) (.bin .mul (.lit (.int 7919)) (.var 1))) (.lit (.int 1))) (.lit (.int 48271))) (.lit (.int 2147483647)))) (.cons (.ret (.bin .mod (.bin .add (.bin .add (.bin .mul (.var 2) (.var 2)) (.bin .mul (.lit (.int 7)) (.var 2))) (.var 1)) (.lit (.int 2147483629)))) .nil) }
def d_law_other_side : Df := { ar := 2, nn := 2, body := .cons (.ife (.cmp .eq (.idx (.var 0) (.lit (.int 0))) (.lit (.str "letter"))) (.cons (.ret (.bin .add (.bin .add (.slice (.var 0) .non (.som (.lit (.int 2)))) (.tup (.cons (.bin .sub (.var 1) (.idx (.var 0) (.lit (.int 2)))) (.cons (.bin .sub (.var 1) (.idx (.var 0) (.lit (.int 3)))) .nil)))) (.slice (.var 0) (.som (.lit (.int 4))) .non))) .nil) (.nil)) (.cons (.ife (.cmp .eq (.idx (.var 0) (.lit (.int 0))) (.lit (.str "head"))) (.cons (.ret (.bin .add (.slice (.var 0) .non (.som (.lit (.int 3)))) (.tup (.cons (.bin .sub (.var 1) (.idx (.var 0) (.lit (.int 4)))) (.cons (.bin .sub (.var 1) (.idx (.var 0) (.lit (.int 3)))) .nil))))) .nil) (.nil)) (.cons (.ret (.var 0)) .nil)) }
def d_law_spoilt : Df := { ar := 3, nn := 6, body := .cons (.ife (.and (.cmp .gt (.var 2) (.lit (.int 0))) (.and (.isi .tuple (.var 0)) (.and (.cmp .gt (.bi .len (.cons (.var 0) .nil)) (.lit (.int 0))) (.cmp .gt (.bin .mod (.var 1) (.lit (.int 6))) (.lit (.int 0)))))) (.cons (.set 3 (.bin .mod (.bin .fdiv (.var 1) (.lit (.int 6))) (.bi .len (.cons (.var 0) .nil)))) (.cons (.set 4 (.call "_law_spoilt" (.cons (.idx (.var 0) (.var 3)) (.cons (.bin .fdiv (.call "_law_drawn" (.cons (.var 1) (.cons (.var 2) .nil))) (.lit (.int 4))) (.cons (.bin .sub (.var 2) (.lit (.int 1))) .nil))))) (.cons (.ret (.bin .add (.bin .add (.slice (.var 0) .non (.som (.var 3))) (.tup (.cons (.var 4) .nil))) (.slice (.var 0) (.som (.bin .add (.var 3) (.lit (.int 1)))) .non))) .nil))) (.nil)) (.cons (.ife (.and (.isi .tuple (.var 0)) (.and (.cmp .gt (.bi .len (.cons (.var 0) .nil)) (.lit (.int 0))) (.cmp .eq (.bin .mod (.bin .fdiv (.var 1) (.lit (.int 6))) (.lit (.int 2))) (.lit (.int 0))))) (.cons (.ret (.idx (.lst (.cons (.bi .list (.cons (.var 0) .nil)) (.cons (.slice (.var 0) .non (.som (.neg (.lit (.int 1))))) (.cons (.bin .add (.var 0) (.slice (.var 0) (.som (.neg (.lit (.int 1)))) .non)) (.cons (.slice (.var 0) (.som (.lit (.int 1))) .non) (.cons (.rev (.var 0)) (.cons (.bin .mul (.var 0) (.lit (.int 3))) .nil))))))) (.bin .mod (.bin .fdiv (.var 1) (.lit (.int 12))) (.lit (.int 6))))) .nil) (.nil)) (.cons (.set 5 (.lst (.cons (.lit (.none)) (.cons (.lit (.bool true)) (.cons (.lit (.int 0)) (.cons (.lit (.str "")) (.cons (.lit (.str "a")) (.cons (.lit (.str "sixsix")) (.cons (.lit (.str "A")) (.cons (.lit (.str "tell")) (.cons (.lit (.str "round")) (.cons (.tup (.nil)) (.cons (.tup (.cons (.lit (.str "a")) .nil)) (.cons (.tup (.cons (.lit (.str "tell")) (.cons (.lit (.str "a")) (.cons (.lit (.str "a")) (.cons (.lit (.str "hi")) .nil))))) (.cons (.lst (.nil)) (.cons (.lit (.str "bob")) .nil)))))))))))))))) (.cons (.ret (.idx (.bin .add (.var 5) (.lst (.cons (.tup (.cons (.lit (.str "choice")) (.cons (.tup (.nil)) .nil))) (.cons (.tup (.cons (.lit (.str "round")) (.cons (.tup (.nil)) .nil))) (.cons (.tup (.cons (.lit (.str "tell")) (.cons (.lit (.str "zz")) (.cons (.lit (.str "a")) (.cons (.lit (.str "hi")) .nil))))) .nil))))) (.bin .mod (.bin .fdiv (.var 1) (.lit (.int 6))) (.lit (.int 17))))) .nil))) }
def d_law_step : Df := { ar := 3, nn := 10, body := .cons (.set 7 (.bin .mod (.var 0) (.lit (.int 7)))) (.cons (.ife (.or (.cmp .eq (.var 2) (.lit (.int 0))) (.cmp .lt (.var 7) (.lit (.int 3)))) (.cons (.set 3 (.idx (.var 1) (.bin .mod (.bin .fdiv (.var 0) (.lit (.int 8))) (.bi .len (.cons (.var 1) .nil))))) (.cons (.set 5 (.idx (.var 1) (.bin .mod (.bin .fdiv (.var 0) (.lit (.int 64))) (.bi .len (.cons (.var 1) .nil))))) (.cons (.ret (.tup (.cons (.lit (.str "tell")) (.cons (.var 3) (.cons (.var 5) (.cons (.call "_law_word" (.cons (.bin .fdiv (.var 0) (.lit (.int 512))) .nil)) .nil)))))) .nil))) (.nil)) (.cons (.ife (.cmp .lt (.var 7) (.lit (.int 5))) (.cons (.set 8 (.bin .add (.lit (.int 1)) (.bin .mod (.bin .fdiv (.var 0) (.lit (.int 8))) (.lit (.int 3))))) (.cons (.set 4 (.lc (.call "_law_steps" (.cons (.bin .fdiv (.call "_law_drawn" (.cons (.var 0) (.cons (.var 6) .nil))) (.lit (.int 4))) (.cons (.var 1) (.cons (.bin .sub (.var 2) (.lit (.int 1))) (.cons (.lit (.int 2)) .nil))))) (.name 6) (.range1 (.var 8)) (.lit (.bool true)))) (.cons (.ret (.tup (.cons (.lit (.str "choice")) (.cons (.bi .tuple (.cons (.var 4) .nil)) .nil)))) .nil))) (.nil)) (.cons (.set 9 (.call "_law_steps" (.cons (.bin .fdiv (.call "_law_drawn" (.cons (.var 0) (.cons (.lit (.int 4)) .nil))) (.lit (.int 4))) (.cons (.var 1) (.cons (.bin .sub (.var 2) (.lit (.int 1))) (.cons (.lit (.int 2)) .nil)))))) (.cons (.ife (.cmp .eq (.var 7) (.lit (.int 5))) (.cons (.ret (.tup (.cons (.lit (.str "round")) (.cons (.var 9) .nil)))) .nil) (.nil)) (.cons (.ret (.tup (.cons (.lit (.str "both")) (.cons (.var 9) (.cons (.call "_law_steps" (.cons (.bin .fdiv (.call "_law_drawn" (.cons (.var 0) (.cons (.lit (.int 5)) .nil))) (.lit (.int 4))) (.cons (.var 1) (.cons (.bin .sub (.var 2) (.lit (.int 1))) (.cons (.lit (.int 2)) .nil))))) .nil))))) .nil))))) }
def d_law_steps : Df := { ar := 4, nn := 5, body := .cons (.ret (.bi .tuple (.cons (.lc (.call "_law_step" (.cons (.bin .fdiv (.call "_law_drawn" (.cons (.var 0) (.cons (.bin .add (.lit (.int 10)) (.var 4)) .nil))) (.lit (.int 4))) (.cons (.var 1) (.cons (.var 2) .nil)))) (.name 4) (.range1 (.bin .mod (.var 0) (.bin .add (.var 3) (.lit (.int 1))))) (.lit (.bool true))) .nil))) .nil }
def d_law_talk : Df := { ar := 3, nn := 5, body := .cons (.set 3 (.idx (.tup (.cons (.tup (.cons (.lit (.str "a")) .nil)) (.cons (.tup (.cons (.lit (.str "a")) (.cons (.lit (.str "bob")) .nil))) (.cons (.tup (.cons (.lit (.str "c")) (.cons (.lit (.str "a")) (.cons (.lit (.str "bob")) .nil)))) (.cons (.tup (.cons (.lit (.str "d")) (.cons (.lit (.str "bob")) (.cons (.lit (.str "a")) (.cons (.lit (.str "c")) .nil))))) .nil))))) (.bin .mod (.var 0) (.lit (.int 4))))) (.cons (.set 4 (.call "_law_word" (.cons (.bin .mul (.bin .fdiv (.var 0) (.lit (.int 8))) (.lit (.int 6))) .nil))) (.cons (.ife (.and (.cmp .eq (.bin .mod (.bin .fdiv (.var 0) (.lit (.int 16))) (.lit (.int 3))) (.lit (.int 0))) (.cmp .notin (.var 4) (.var 3))) (.cons (.set 3 (.bin .add (.tup (.cons (.var 4) .nil)) (.slice (.var 3) (.som (.lit (.int 1))) .non))) .nil) (.nil)) (.cons (.ret (.tup (.cons (.var 3) (.cons (.call "_law_steps" (.cons (.bin .fdiv (.var 0) (.lit (.int 4))) (.cons (.var 3) (.cons (.var 1) (.cons (.var 2) .nil))))) .nil)))) .nil))) }
def d_law_two : Df := { ar := 1, nn := 5, body := .cons (.set 2 (.call "_law_mixed" (.cons (.var 0) (.cons (.lit (.int 0)) .nil)))) (.cons (.set 1 (.idx (.tup (.cons (.tup (.cons (.lit (.str "a")) .nil)) (.cons (.tup (.cons (.lit (.str "a")) (.cons (.lit (.str "bob")) .nil))) (.cons (.tup (.cons (.lit (.str "c")) (.cons (.lit (.str "a")) (.cons (.lit (.str "bob")) .nil)))) (.cons (.tup (.cons (.lit (.str "d")) (.cons (.lit (.str "bob")) (.cons (.lit (.str "a")) (.cons (.lit (.str "c")) .nil))))) .nil))))) (.bin .mod (.var 2) (.lit (.int 4))))) (.cons (.set 3 (.call "_law_steps" (.cons (.call "_law_mixed" (.cons (.var 0) (.cons (.lit (.int 1)) .nil))) (.cons (.var 1) (.cons (.bin .mod (.bin .fdiv (.var 2) (.lit (.int 4))) (.lit (.int 2))) (.cons (.lit (.int 2)) .nil)))))) (.cons (.set 4 (.call "_law_steps" (.cons (.call "_law_mixed" (.cons (.var 0) (.cons (.lit (.int 2)) .nil))) (.cons (.var 1) (.cons (.bin .mod (.bin .fdiv (.var 2) (.lit (.int 16))) (.lit (.int 2))) (.cons (.lit (.int 2)) .nil)))))) (.cons (.ret (.tup (.cons (.var 1) (.cons (.var 3) (.cons (.var 4) .nil))))) .nil)))) }
def d_law_view : Df := { ar := 2, nn := 6, body := .cons (.set 2 (.tup (.nil))) (.cons (.for_ (.name 5) (.seq (.var 0)) (.cons (.ife (.cmp .eq (.idx (.var 5) (.lit (.int 0))) (.lit (.str "tell"))) (.cons (.ife (.cmp .isin (.var 1) (.slice (.var 5) (.som (.lit (.int 1))) (.som (.lit (.int 3))))) (.cons (.set 2 (.bin .add (.var 2) (.tup (.cons (.var 5) .nil)))) .nil) (.nil)) .nil) (.cons (.ife (.cmp .eq (.idx (.var 5) (.lit (.int 0))) (.lit (.str "choice"))) (.cons (.set 2 (.bin .add (.var 2) (.tup (.cons (.tup (.cons (.lit (.str "choice")) (.cons (.bi .tuple (.cons (.lc (.call "_law_view" (.cons (.var 3) (.cons (.var 1) .nil))) (.name 3) (.seq (.idx (.var 5) (.lit (.int 1)))) (.lit (.bool true))) .nil)) .nil))) .nil)))) .nil) (.cons (.set 4 (.bi .tuple (.cons (.lc (.call "_law_view" (.cons (.var 3) (.cons (.var 1) .nil))) (.name 3) (.seq (.slice (.var 5) (.som (.lit (.int 1))) .non)) (.lit (.bool true))) .nil))) (.cons (.set 2 (.bin .add (.var 2) (.tup (.cons (.bin .add (.slice (.var 5) .non (.som (.lit (.int 1)))) (.var 4)) .nil)))) .nil))) .nil)) .nil)) (.cons (.ret (.var 2)) .nil)) }
def d_law_word : Df := { ar := 1, nn := 3, body := .cons (.ife (.cmp .gt (.bin .mod (.var 0) (.lit (.int 6))) (.lit (.int 0))) (.cons (.ret (.idx (.tup (.cons (.lit (.str "hi")) (.cons (.lit (.str "go")) (.cons (.lit (.str "hi")) (.cons (.lit (.str "later")) (.cons (.lit (.str "go")) .nil)))))) (.bin .sub (.bin .mod (.var 0) (.lit (.int 6))) (.lit (.int 1))))) .nil) (.nil)) (.cons (.set 2 (.lit (.str "abcdefghijklmnopqrstuvwxyz"))) (.cons (.ret (.bi .join (.cons (.lit (.str "")) (.cons (.lc (.idx (.var 2) (.bin .mod (.bin .fdiv (.call "_law_drawn" (.cons (.var 0) (.cons (.var 1) .nil))) (.lit (.int 4))) (.lit (.int 26)))) (.name 1) (.range1 (.bin .add (.lit (.int 1)) (.bin .mod (.bin .fdiv (.var 0) (.lit (.int 6))) (.lit (.int 5))))) (.lit (.bool true))) .nil)))) .nil)) }
def d_are_steps : Df := { ar := 3, nn := 4, body := .cons (.ife (.or (.not (.isi .tuple (.var 0))) (.cmp .gt (.bi .len (.cons (.var 0) .nil)) (.glob "MOST_STEPS"))) (.cons (.ret (.lit (.bool false))) .nil) (.nil)) (.cons (.ret (.bi .all (.cons (.lc (.call "is_step" (.cons (.var 3) (.cons (.var 1) (.cons (.var 2) .nil)))) (.name 3) (.seq (.var 0)) (.lit (.bool true))) .nil))) .nil) }
def d_far : Df := { ar := 1, nn := 1, body := .cons (.ret (.call "far_by" (.cons (.idx (.var 0) (.lit (.int 0))) (.cons (.idx (.var 0) (.lit (.int 1))) .nil)))) .nil }
def d_far_by : Df := { ar := 2, nn := 5, body := .cons (.ret (.bi .sum (.cons (.lc (.bi .abs (.cons (.bin .sub (.bi .index (.cons (.var 0) (.cons (.var 2) .nil))) (.bi .index (.cons (.var 0) (.cons (.var 3) .nil)))) .nil)) (.tup [2, 3, 4]) (.seq (.call "letters_in" (.cons (.var 1) .nil))) (.lit (.bool true))) .nil))) .nil }
def d_height : Df := { ar := 1, nn := 1, body := .cons (.ret (.bi .len (.cons (.call "laid" (.cons (.var 0) .nil)) .nil))) .nil }
def d_is_hand : Df := { ar := 2, nn := 2, body := .cons (.ret (.and (.isi .str (.var 0)) (.cmp .isin (.var 0) (.var 1)))) .nil }
def d_is_name : Df := { ar := 1, nn := 2, body := .cons (.ret (.and (.isi .str (.var 0)) (.and (.chain .le .le (.lit (.int 1)) (.bi .len (.cons (.var 0) .nil)) (.glob "LONGEST")) (.bi .all (.cons (.lc (.cmp .isin (.var 1) (.glob "LETTERS")) (.name 1) (.seq (.var 0)) (.lit (.bool true))) .nil))))) .nil }
def d_is_step : Df := { ar := 3, nn := 5, body := .cons (.ife (.or (.not (.isi .tuple (.var 0))) (.or (.cmp .lt (.bi .len (.cons (.var 0) .nil)) (.lit (.int 2))) (.not (.isi .str (.idx (.var 0) (.lit (.int 0))))))) (.cons (.ret (.lit (.bool false))) .nil) (.nil)) (.cons (.set 4 (.idx (.var 0) (.lit (.int 0)))) (.cons (.ife (.cmp .eq (.var 4) (.lit (.str "tell"))) (.cons (.ret (.and (.cmp .eq (.bi .len (.cons (.var 0) .nil)) (.lit (.int 4))) (.and (.call "is_hand" (.cons (.idx (.var 0) (.lit (.int 1))) (.cons (.var 1) .nil))) (.and (.call "is_hand" (.cons (.idx (.var 0) (.lit (.int 2))) (.cons (.var 1) .nil))) (.call "is_name" (.cons (.idx (.var 0) (.lit (.int 3))) .nil)))))) .nil) (.nil)) (.cons (.ife (.cmp .eq (.var 2) (.lit (.int 0))) (.cons (.ret (.lit (.bool false))) .nil) (.nil)) (.cons (.ife (.cmp .eq (.var 4) (.lit (.str "choice"))) (.cons (.ife (.or (.cmp .ne (.bi .len (.cons (.var 0) .nil)) (.lit (.int 2))) (.or (.not (.isi .tuple (.idx (.var 0) (.lit (.int 1))))) (.not (.chain .le .le (.lit (.int 1)) (.bi .len (.cons (.idx (.var 0) (.lit (.int 1))) .nil)) (.glob "MOST_BRANCHES"))))) (.cons (.ret (.lit (.bool false))) .nil) (.nil)) (.cons (.ret (.bi .all (.cons (.lc (.call "are_steps" (.cons (.var 3) (.cons (.var 1) (.cons (.bin .sub (.var 2) (.lit (.int 1))) .nil)))) (.name 3) (.seq (.idx (.var 0) (.lit (.int 1)))) (.lit (.bool true))) .nil))) .nil)) (.nil)) (.cons (.ife (.cmp .eq (.var 4) (.lit (.str "round"))) (.cons (.ret (.and (.cmp .eq (.bi .len (.cons (.var 0) .nil)) (.lit (.int 2))) (.call "are_steps" (.cons (.idx (.var 0) (.lit (.int 1))) (.cons (.var 1) (.cons (.bin .sub (.var 2) (.lit (.int 1))) .nil)))))) .nil) (.nil)) (.cons (.ret (.and (.cmp .eq (.var 4) (.lit (.str "both"))) (.and (.cmp .eq (.bi .len (.cons (.var 0) .nil)) (.lit (.int 3))) (.bi .all (.cons (.lc (.call "are_steps" (.cons (.var 3) (.cons (.var 1) (.cons (.bin .sub (.var 2) (.lit (.int 1))) .nil)))) (.name 3) (.seq (.slice (.var 0) (.som (.lit (.int 1))) .non)) (.lit (.bool true))) .nil))))) .nil)))))) }
def d_is_talk_k01 : Df := { ar := 1, nn := 3, body := .cons (.ife (.or (.not (.isi .tuple (.var 0))) (.or (.cmp .ne (.bi .len (.cons (.var 0) .nil)) (.lit (.int 2))) (.not (.isi .tuple (.idx (.var 0) (.lit (.int 0))))))) (.cons (.ret (.lit (.bool false))) .nil) (.nil)) (.cons (.set 2 (.idx (.var 0) (.lit (.int 0)))) (.cons (.ife (.or (.not (.chain .le .le (.lit (.int 1)) (.bi .len (.cons (.var 2) .nil)) (.glob "MOST_HANDS"))) (.not (.bi .all (.cons (.lc (.call "is_name" (.cons (.var 1) .nil)) (.name 1) (.seq (.var 2)) (.lit (.bool true))) .nil)))) (.cons (.ret (.lit (.bool false))) .nil) (.nil)) (.cons (.ret (.and (.cmp .eq (.bi .lenSet (.cons (.var 2) .nil)) (.bi .len (.cons (.var 2) .nil))) (.call "are_steps" (.cons (.idx (.var 0) (.lit (.int 1))) (.cons (.var 2) (.cons (.glob "DEEPEST") .nil)))))) .nil))) }
def d_laid : Df := { ar := 1, nn := 1, body := .cons (.ret (.bi .tuple (.cons (.call "marks_of" (.cons (.idx (.var 0) (.lit (.int 1))) (.cons (.idx (.var 0) (.lit (.int 0))) (.cons (.lit (.int 0)) .nil)))) .nil))) .nil }
def d_lanes_of : Df := { ar := 2, nn := 5, body := .cons (.setF 2 (.lst (.nil))) (.cons (.for_ (.name 4) (.seq (.call "parts_of" (.cons (.var 0) .nil))) (.cons (.for_ (.name 3) (.seq (.call "letters_in" (.cons (.var 4) .nil))) (.cons (.extend 2 (.lst (.cons (.bi .index (.cons (.var 1) (.cons (.idx (.var 3) (.lit (.int 0))) .nil))) (.cons (.bi .index (.cons (.var 1) (.cons (.idx (.var 3) (.lit (.int 1))) .nil))) .nil)))) .nil)) .nil)) (.cons (.ife (.cmp .eq (.bi .len (.cons (.var 2) .nil)) (.lit (.int 0))) (.cons (.ret (.tup (.cons (.lit (.int 0)) (.cons (.bin .sub (.bi .len (.cons (.var 1) .nil)) (.lit (.int 1))) .nil)))) .nil) (.nil)) (.cons (.ret (.tup (.cons (.bi .min1 (.cons (.var 2) .nil)) (.cons (.bi .max1 (.cons (.var 2) .nil)) .nil)))) .nil))) }
def d_law_k42 : Df := { ar := 1, nn := 16, body := .cons (.setT [5, 11, 12] (.call "_law_two" (.cons (.var 0) .nil))) (.cons (.setP [6, 13] (.cons (.tup (.cons (.var 5) (.cons (.var 11) .nil))) (.cons (.tup (.cons (.var 5) (.cons (.var 12) .nil))) .nil))) (.cons (.set 7 (.call "height" (.cons (.var 6) .nil))) (.cons (.set 15 (.tup (.cons (.var 5) (.cons (.bin .add (.var 11) (.var 12)) .nil)))) (.cons (.ife (.or (.cmp .ne (.call "height" (.cons (.var 15) .nil)) (.bin .add (.var 7) (.call "height" (.cons (.var 13) .nil)))) (.cmp .ne (.call "laid" (.cons (.var 15) .nil)) (.bin .add (.call "laid" (.cons (.var 6) .nil)) (.call "_law_lower" (.cons (.call "laid" (.cons (.var 13) .nil)) (.cons (.var 7) .nil)))))) (.cons (.ret (.lit (.bool false))) .nil) (.nil)) (.cons (.set 4 (.tup (.cons (.var 5) (.cons (.tup (.cons (.tup (.cons (.lit (.str "choice")) (.cons (.tup (.cons (.var 11) (.cons (.var 12) .nil))) .nil))) .nil)) .nil)))) (.cons (.set 2 (.tup (.cons (.var 5) (.cons (.tup (.cons (.tup (.cons (.lit (.str "both")) (.cons (.var 11) (.cons (.var 12) .nil)))) .nil)) .nil)))) (.cons (.set 1 (.tup (.cons (.var 5) (.cons (.tup (.cons (.tup (.cons (.lit (.str "round")) (.cons (.var 11) .nil))) .nil)) .nil)))) (.cons (.ife (.or (.cmp .ne (.call "height" (.cons (.var 4) .nil)) (.bin .add (.bin .add (.var 7) (.call "height" (.cons (.var 13) .nil))) (.lit (.int 3)))) (.or (.cmp .ne (.call "height" (.cons (.var 2) .nil)) (.call "height" (.cons (.var 4) .nil))) (.cmp .ne (.call "height" (.cons (.var 1) .nil)) (.bin .add (.var 7) (.lit (.int 2)))))) (.cons (.ret (.lit (.bool false))) .nil) (.nil)) (.cons (.set 10 (.call "laid" (.cons (.var 4) .nil))) (.cons (.ife (.or (.cmp .ne (.slice (.var 10) (.som (.lit (.int 1))) (.som (.bin .add (.var 7) (.lit (.int 1))))) (.call "_law_lower" (.cons (.call "laid" (.cons (.var 6) .nil)) (.cons (.lit (.int 1)) .nil)))) (.cmp .ne (.idx (.var 10) (.bin .add (.var 7) (.lit (.int 1)))) (.tup (.cons (.lit (.str "line")) (.cons (.bin .add (.var 7) (.lit (.int 1))) .nil))))) (.cons (.ret (.lit (.bool false))) .nil) (.nil)) (.cons (.ife (.or (.cmp .ne (.slice (.var 10) (.som (.bin .add (.var 7) (.lit (.int 2)))) (.som (.neg (.lit (.int 1))))) (.call "_law_lower" (.cons (.call "laid" (.cons (.var 13) .nil)) (.cons (.bin .add (.var 7) (.lit (.int 2))) .nil)))) (.cmp .ne (.slice (.call "laid" (.cons (.var 2) .nil)) (.som (.lit (.int 1))) .non) (.slice (.var 10) (.som (.lit (.int 1))) .non))) (.cons (.ret (.lit (.bool false))) .nil) (.nil)) (.cons (.ife (.cmp .ne (.slice (.call "laid" (.cons (.var 1) .nil)) (.som (.lit (.int 1))) (.som (.neg (.lit (.int 1))))) (.call "_law_lower" (.cons (.call "laid" (.cons (.var 6) .nil)) (.cons (.lit (.int 1)) .nil)))) (.cons (.ret (.lit (.bool false))) .nil) (.nil)) (.cons (.set 8 (.bin .sub (.bi .len (.cons (.var 5) .nil)) (.lit (.int 1)))) (.cons (.set 3 (.bi .tuple (.cons (.lc (.call "_law_other_side" (.cons (.var 9) (.cons (.var 8) .nil))) (.name 9) (.seq (.var 10)) (.lit (.bool true))) .nil))) (.cons (.set 14 (.tup (.cons (.rev (.var 5)) (.cons (.idx (.var 4) (.lit (.int 1))) .nil)))) (.cons (.ret (.and (.cmp .eq (.call "laid" (.cons (.var 14) .nil)) (.var 3)) (.cmp .eq (.call "unlaid" (.cons (.rev (.var 5)) (.cons (.var 3) .nil))) (.var 14)))) .nil)))))))))))))))) }
def d_letters_in : Df := { ar := 1, nn := 4, body := .cons (.setF 1 (.lst (.nil))) (.cons (.for_ (.name 3) (.seq (.var 0)) (.cons (.ife (.cmp .eq (.idx (.var 3) (.lit (.int 0))) (.lit (.str "tell"))) (.cons (.append 1 (.slice (.var 3) (.som (.lit (.int 1))) .non)) .nil) (.nil)) (.cons (.for_ (.name 2) (.seq (.call "parts_of" (.cons (.var 3) .nil))) (.cons (.extend 1 (.call "letters_in" (.cons (.var 2) .nil))) .nil)) .nil))) (.cons (.ret (.var 1)) .nil)) }
def d_marks_of : Df := { ar := 3, nn := 8, body := .cons (.setF 4 (.lst (.nil))) (.cons (.for_ (.name 7) (.seq (.var 0)) (.cons (.set 5 (.bin .add (.var 2) (.bi .len (.cons (.var 4) .nil)))) (.cons (.ife (.cmp .eq (.idx (.var 7) (.lit (.int 0))) (.lit (.str "tell"))) (.cons (.append 4 (.tup (.cons (.lit (.str "letter")) (.cons (.var 5) (.cons (.bi .index (.cons (.var 1) (.cons (.idx (.var 7) (.lit (.int 1))) .nil))) (.cons (.bi .index (.cons (.var 1) (.cons (.idx (.var 7) (.lit (.int 2))) .nil))) (.cons (.idx (.var 7) (.lit (.int 3))) .nil))))))) .nil) (.cons (.append 4 (.bin .add (.tup (.cons (.lit (.str "head")) (.cons (.var 5) (.cons (.idx (.var 7) (.lit (.int 0))) .nil)))) (.call "lanes_of" (.cons (.var 7) (.cons (.var 1) .nil))))) (.cons (.for_ (.tup [3, 6]) (.enum (.call "parts_of" (.cons (.var 7) .nil))) (.cons (.ife (.cmp .gt (.var 3) (.lit (.int 0))) (.cons (.append 4 (.tup (.cons (.lit (.str "line")) (.cons (.bin .add (.var 2) (.bi .len (.cons (.var 4) .nil))) .nil)))) .nil) (.nil)) (.cons (.extend 4 (.call "marks_of" (.cons (.var 6) (.cons (.var 1) (.cons (.bin .add (.var 2) (.bi .len (.cons (.var 4) .nil))) .nil))))) .nil))) (.cons (.append 4 (.tup (.cons (.lit (.str "foot")) (.cons (.bin .add (.var 2) (.bi .len (.cons (.var 4) .nil))) .nil)))) .nil)))) .nil))) (.cons (.ret (.var 4)) .nil)) }
def d_parts_of : Df := { ar := 1, nn := 1, body := .cons (.ife (.cmp .eq (.idx (.var 0) (.lit (.int 0))) (.lit (.str "choice"))) (.cons (.ret (.idx (.var 0) (.lit (.int 1)))) .nil) (.nil)) (.cons (.ife (.cmp .eq (.idx (.var 0) (.lit (.int 0))) (.lit (.str "tell"))) (.cons (.ret (.tup (.nil))) .nil) (.nil)) (.cons (.ret (.slice (.var 0) (.som (.lit (.int 1))) .non)) .nil)) }
def d_steps_seen : Df := { ar := 2, nn := 5, body := .cons (.setF 2 (.lst (.nil))) (.cons (.for_ (.name 4) (.seq (.var 0)) (.cons (.ife (.cmp .ne (.idx (.var 4) (.lit (.int 0))) (.lit (.str "tell"))) (.cons (.append 2 (.call "with_parts" (.cons (.var 4) (.cons (.lc (.call "steps_seen" (.cons (.var 3) (.cons (.var 1) .nil))) (.name 3) (.seq (.call "parts_of" (.cons (.var 4) .nil))) (.lit (.bool true))) .nil)))) .nil) (.cons (.ife (.cmp .isin (.var 1) (.slice (.var 4) (.som (.lit (.int 1))) (.som (.lit (.int 3))))) (.cons (.append 2 (.var 4)) .nil) (.nil)) .nil)) .nil)) (.cons (.ret (.bi .tuple (.cons (.var 2) .nil))) .nil)) }
def d_view : Df := { ar := 2, nn := 2, body := .cons (.ret (.tup (.cons (.idx (.var 0) (.lit (.int 0))) (.cons (.call "steps_seen" (.cons (.idx (.var 0) (.lit (.int 1))) (.cons (.var 1) .nil))) .nil)))) .nil }
def d_with_parts : Df := { ar := 2, nn := 2, body := .cons (.ife (.cmp .eq (.idx (.var 0) (.lit (.int 0))) (.lit (.str "choice"))) (.cons (.ret (.tup (.cons (.lit (.str "choice")) (.cons (.bi .tuple (.cons (.var 1) .nil)) .nil)))) .nil) (.nil)) (.cons (.ret (.bin .add (.slice (.var 0) .non (.som (.lit (.int 1)))) (.bi .tuple (.cons (.var 1) .nil)))) .nil) }
end Lr
namespace Lr
open PySem PySem.Spec PyProof.Rows L2
/-! ### one step of the small language, by what stands there -/
section
variable {ρ : Rho} {m : Bool} {d e : PyData} {xs ys : List PyData} {i j : Int} {x y : Str} {n k : Nat} {s : Slot}
theorem rd_val : readS m (.val d :: ρ) 0 = some d := rfl
theorem rd_own : readS true (.own xs :: ρ) 0 = some (.list xs) := rfl
theorem rd_succ : readS m (s :: ρ) (n + 1) = readS m ρ n := by unfold readS; simp
theorem add_int : addEv (.int i) (.int j) = some (.int (i + j)) := rfl
theorem add_tup : addEv (.tuple xs) (.tuple ys) = if szOk (xs.length + ys.length) then some (.tuple (xs ++ ys)) else none := rfl
theorem add_lst : addEv (.list xs) (.list ys) = if szOk (xs.length + ys.length) then some (.list (xs ++ ys)) else none := rfl
theorem add_str : addEv (.str x) (.str y) = if szOk (x.length + y.length) then some (.str (x ++ y)) else none := rfl
theorem sub_int : subEv (.int i) (.int j) = some (.int (i - j)) := rfl
theorem mul_int : mulEv (.int i) (.int j) = if mulOk i j then some (.int (i * j)) else none := rfl
theorem fdiv_int : fdivEv (.int i) (.int j) = if decide (0 < j) && decide (j < 1073741824) then some (.int (i / j)) else none := rfl
theorem mod_int : modEv (.int i) (.int j) = if decide (0 < j) then some (.int (i % j)) else none := rfl
theorem bin_add : binEv .add d e = addEv d e := rfl
theorem bin_sub : binEv .sub d e = subEv d e := rfl
theorem bin_mul : binEv .mul d e = mulEv d e := rfl
theorem bin_fdiv : binEv .fdiv d e = fdivEv d e := rfl
theorem bin_mod : binEv .mod d e = modEv d e := rfl
theorem cmp_eq : cmpEv .eq d e = eqEv d e := rfl
theorem cmp_ne : cmpEv .ne d e = neEv d e := rfl
theorem cmp_lt : cmpEv .lt (.int i) (.int j) = some (decide (i < j)) := rfl
theorem cmp_le : cmpEv .le (.int i) (.int j) = some (decide (i ≤ j)) := rfl
theorem cmp_gt : cmpEv .gt (.int i) (.int j) = some (decide (j < i)) := rfl
theorem cmp_ge : cmpEv .ge (.int i) (.int j) = some (decide (j ≤ i)) := rfl
theorem cmp_in : cmpEv .isin d e = isinEv d e := rfl
theorem cmp_notin : cmpEv .notin d e = notinEv d e := rfl
theorem cmp_isN : cmpEv .is_ d .none = some (isNoneD d) := by cases d <;> rfl
theorem cmp_isnotN : cmpEv .isnot d .none = some (!isNoneD d) := by cases d <;> rfl
theorem eq_int : eqEv (.int i) (.int j) = some (decide (i = j)) := by
  unfold eqEv
  rw [if_pos (by rfl)]
  congr 1
theorem ne_int : neEv (.int i) (.int j) = some (!decide (i = j)) := by
  unfold neEv
  rw [if_pos (by rfl)]
  congr 1
theorem len_lst : lenEv [.list xs] = some (.int xs.length) := rfl
theorem len_tup : lenEv [.tuple xs] = some (.int xs.length) := rfl
theorem len_str : lenEv [.str x] = if szOk x.length then some (.int x.length) else none := rfl
theorem tuple_lst : tupleEv [.list xs] = some (.tuple xs) := rfl
theorem tuple_tup : tupleEv [.tuple xs] = some (.tuple xs) := rfl
theorem list_lst : listEv [.list xs] = some (.list xs) := rfl
theorem list_tup : listEv [.tuple xs] = some (.list xs) := rfl
theorem int_bl {b : Bool} : intEv [.bool b] = some (.int (if b then 1 else 0)) := rfl
theorem bi_len : biEv .len xs = lenEv xs := rfl
theorem bi_tuple : biEv .tuple xs = tupleEv xs := rfl
theorem bi_list : biEv .list xs = listEv xs := rfl
theorem bi_int : biEv .int xs = intEv xs := rfl
theorem bi_join : biEv .join xs = joinEv xs := rfl
theorem bi_any : biEv .any xs = anyEv xs := rfl
theorem bi_all : biEv .all xs = allEv xs := rfl
theorem idx_lst : idxEv (.list xs) (.int i) = atI xs i := rfl
theorem idx_tup : idxEv (.tuple xs) (.int i) = atI xs i := rfl
theorem idx_str : idxEv (.str x) (.int i) = if szOk x.length then (atI x.cps.toList i).map fun c => .str ⟨#[c]⟩ else none := rfl
theorem sl_lst {lo hi : Option Int} : sliceEv lo hi (.list xs) = some (.list (cutA xs lo hi)) := rfl
theorem sl_tup {lo hi : Option Int} : sliceEv lo hi (.tuple xs) = some (.tuple (cutA xs lo hi)) := rfl
theorem and_t {b : Bool} : andD (.bool true) (some (.bool b)) = some (.bool b) := rfl
theorem and_f {o : Option PyData} : andD (.bool false) o = some (.bool false) := rfl
theorem or_f {b : Bool} : orD (.bool false) (some (.bool b)) = some (.bool b) := rfl
theorem or_t {o : Option PyData} : orD (.bool true) o = some (.bool true) := rfl
theorem not_b {b : Bool} : notD (.bool b) = some (.bool (!b)) := rfl
theorem neg_i : negD (.int i) = some (.int (-i)) := rfl
theorem cond_t {o : Option PyData} : condD (.bool true) o = o.map some := rfl
theorem cond_f {o : Option PyData} : condD (.bool false) o = some none := rfl
theorem rng1 : range1D (.int j) = rangeEv 0 j := rfl
theorem rng2 : range2D (.int i) (.int j) = rangeEv i j := rfl
theorem tup_d : tupD xs = if szOk xs.length then some (.tuple xs) else none := rfl
theorem lst_d : lstD xs = if szOk xs.length then some (.list xs) else none := rfl
theorem list_of : listOf (.list xs) = some xs := rfl
theorem part_i : partEv (some (.int i)) = some (some i) := rfl
theorem seq_nx {f : Rho → Option Out} : seqD f (.nx ρ) = f ρ := rfl
theorem seq_ret {f : Rho → Option Out} : seqD f (.ret d) = some (.ret d) := rfl
theorem seq_brk {f : Rho → Option Out} : seqD f (.brk ρ) = some (.brk ρ) := rfl
theorem seq_cont {f : Rho → Option Out} : seqD f (.cont ρ) = some (.cont ρ) := rfl
theorem loop_nx {f : Rho → Option Out} : loopD f (.nx ρ) = f ρ := rfl
theorem loop_cont {f : Rho → Option Out} : loopD f (.cont ρ) = f ρ := rfl
theorem loop_ret {f : Rho → Option Out} : loopD f (.ret d) = some (.ret d) := rfl
theorem loop_brk {f : Rho → Option Out} : loopD f (.brk ρ) = some (.nx ρ) := rfl
theorem if_t {a b : Option Out} : ifD a b (.bool true) = a := rfl
theorem if_f {a b : Option Out} : ifD a b (.bool false) = b := rfl
theorem own_some : ownD (some (.own xs)) = some xs := rfl
theorem own_val : ownD (some (.val d)) = none := rfl
theorem own_non : ownD (some .none) = none := rfl
theorem sv_some : sealV ρ n (some xs) = ρ.set n (.val (.list xs)) := rfl
theorem sv_none : sealV ρ n none = ρ := rfl
theorem bind_name : bindT ρ (.name n) d = some (ρ.set n (.val d)) := rfl
theorem seqI_tup : seqItems (.tuple xs) = if szOk xs.length then some xs else none := rfl
theorem seqI_lst : seqItems (.list xs) = if szOk xs.length then some xs else none := rfl
theorem seqI_str : seqItems (.str x) = if szOk x.length then some (signs x) else none := rfl
theorem run_df {c : Cfg} {df : Df} {o : Out} (h1 : xs.length = df.ar) (h2 : exs c (start0 df xs) df.body = some (.ret d)) : runDf c df xs = some d := by unfold runDf; rw [if_pos h1, h2]; rfl
theorem call_at {T : Str → Option Df} {g : Str → Option PyData} {fu : Nat} {f : Str} {df : Df} (hT : T f = some df) (h1 : xs.length = df.ar) (h2 : exs ⟨callAt T g fu k, fu, g⟩ (start0 df xs) df.body = some (.ret d)) : callAt T g fu (k + 1) f xs = some d := by
  unfold callAt
  rw [hT]
  show runDf _ df xs = some d
  unfold runDf; rw [if_pos h1, h2]; rfl
end
/-! ### loops -/
theorem lcRun_map {α : Type} {f : PyData → Option (Option PyData)} {e r : α → PyData} : ∀ {xs : List α}, (∀ x ∈ xs, f (e x) = some (some (r x))) → lcRun f (xs.map e) = some (xs.map r)
  | [], _ => rfl
  | x :: xs, h => by
    rw [List.map_cons]
    unfold lcRun
    rw [h x List.mem_cons_self, lcRun_map fun y hy => h y (List.mem_cons_of_mem _ hy)]
    rfl
theorem lcRun_filter {α : Type} {f : PyData → Option (Option PyData)} {e r : α → PyData} {p : α → Bool} : ∀ {xs : List α}, (∀ x ∈ xs, f (e x) = some (if p x then some (r x) else none)) → lcRun f (xs.map e) = some ((xs.filter p).map r)
  | [], _ => rfl
  | x :: xs, h => by
    rw [List.map_cons]
    unfold lcRun
    rw [h x List.mem_cons_self, lcRun_filter fun y hy => h y (List.mem_cons_of_mem _ hy)]
    cases hp : p x <;> simp [hp]
/-- a for loop whose turns all go on: the state by a fold -/
theorem forRun_fold {α β : Type} {tg : Tgt} {body : Rho → Option Out} {e : α → PyData} {R : β → Rho → Prop} {f : β → α → β} : ∀ {xs : List α} {b : β} {ρ : Rho}, R b ρ →
    (∀ x ∈ xs, ∀ b ρ, R b ρ → ∃ ρ1 ρ', bindT ρ tg (e x) = some ρ1 ∧ (body ρ1 = some (.nx ρ') ∨ body ρ1 = some (.cont ρ')) ∧ R (f b x) ρ') → ∃ ρ', forRun tg body (xs.map e) ρ = some (.nx ρ') ∧ R (xs.foldl f b) ρ'
  | [], b, ρ, h, _ => ⟨ρ, rfl, h⟩
  | x :: xs, b, ρ, h, hs => by
    obtain ⟨ρ1, ρ2, h1, h2, h3⟩ := hs x List.mem_cons_self b ρ h
    obtain ⟨ρ3, h4, h5⟩ := forRun_fold (xs := xs) h3 fun y hy => hs y (List.mem_cons_of_mem _ hy)
    refine ⟨ρ3, ?_, h5⟩
    rw [List.map_cons]
    unfold forRun
    rw [h1]
    show (body ρ1).bind _ = _
    rcases h2 with h2 | h2 <;> (rw [h2]; exact h4)
theorem sz_ok {n : Nat} (h : n ≤ 16777216) : szOk n = true := decC_t h
end Lr
namespace Lr
open PySem PySem.Spec PyProof.Rows L2
abbrev Tab := Str → Option Df
section
variable {T : Tab} {g : Str → Option PyData} {fu : Nat}
def drawnV (n j : Int) : Int := ((n + 104729 * j + 17) * 69621 % 2147483647 * ((n + 104729 * j + 17) * 69621 % 2147483647) + 3 * ((n + 104729 * j + 17) * 69621 % 2147483647) + j) % 2147483629
theorem drawnV_nn (n j : Int) : 0 ≤ drawnV n j := Int.emod_nonneg _ (by decide)
theorem drawnV_lt (n j : Int) : drawnV n j < 2147483629 := Int.emod_lt_of_pos _ (by decide)
theorem mulOk_l {i j : Int} (h1 : -(2 ^ 64) < i) (h2 : i < 2 ^ 64) : mulOk i j = true := decC_t (.inl ⟨h1, h2⟩)
theorem mulOk_r {i j : Int} (h1 : -(2 ^ 64) < j) (h2 : j < 2 ^ 64) : mulOk i j = true := decC_t (.inr ⟨h1, h2⟩)
theorem mulEv_ok {i j : Int} (h : mulOk i j = true) : mulEv (.int i) (.int j) = some (.int (i * j)) := by rw [Lr.mul_int, if_pos h]
theorem drawn_ok (hT : T "_law_drawn" = some d_law_drawn) (k : Nat) (n j : Int) : callAt T g fu (k + 1) "_law_drawn" [.int n, .int j] = some (.int (drawnV n j)) := by
  have e1 : mulEv (.int 104729) (.int j) = some (.int (104729 * j)) := mulEv_ok (mulOk_l (by decide) (by decide))
  have e2 : ∀ x : Int, mulEv (.int x) (.int 69621) = some (.int (x * 69621)) := fun x => mulEv_ok (mulOk_r (by decide) (by decide))
  have hd : ∀ x : Int, 0 ≤ x % 2147483647 ∧ x % 2147483647 < 2147483647 := fun x => ⟨Int.emod_nonneg _ (by decide), Int.emod_lt_of_pos _ (by decide)⟩
  have e3 : ∀ x : Int, mulEv (.int (x % 2147483647)) (.int (x % 2147483647)) = some (.int (x % 2147483647 * (x % 2147483647))) := fun x => mulEv_ok (mulOk_l (by have := (hd x).1; omega) (by have := (hd x).2; omega))
  have e4 : ∀ x : Int, mulEv (.int 3) (.int x) = some (.int (3 * x)) := fun x => mulEv_ok (mulOk_l (by decide) (by decide))
  refine call_at hT rfl ?_
  simp only [d_law_drawn, exs, ex, ev, evs, evPart, evIt, sealE, sealIt, rd_val, rd_own, rd_succ, Lr.add_int, Lr.sub_int, fdiv_int, Lr.mod_int, bin_add, bin_sub, bin_mul, bin_fdiv, bin_mod, cmp_eq, cmp_ne, cmp_lt, cmp_le, cmp_gt, cmp_ge, cmp_in, cmp_notin, cmp_isN, cmp_isnotN, Lr.eq_int, Lr.ne_int, Lr.len_lst, Lr.len_tup, tuple_lst, tuple_tup, list_lst, list_tup, int_bl, bi_len, bi_tuple, bi_list, bi_int, bi_join, bi_any, bi_all, idx_lst, idx_tup, Lr.sl_lst, Lr.sl_tup, and_t, and_f, or_f, or_t, not_b, neg_i, cond_t, cond_f, rng1, rng2, list_of, part_i, seq_nx, seq_ret, seq_brk, seq_cont, if_t, if_f, own_some, own_val, own_non, sv_some, sv_none, bind_name, start0, Option.bind_some, Option.bind_none, Option.map_some, Option.map_none, List.map_cons, List.map_nil, List.length_cons, List.length_nil, List.replicate, List.cons_append, List.nil_append, List.getElem?_cons_zero, List.getElem?_cons_succ, List.set_cons_zero, List.set_cons_succ, Nat.reduceAdd, Nat.reduceSub, if_true, if_false, Bool.false_eq_true, reduceIte, decide_true, decide_false, Bool.and_self, Bool.and_true, Bool.true_and, Int.reduceLT, Int.reduceNeg, Nat.reduceLeDiff, e1, e2, e3, e4]
  rfl
theorem cell_ok (hT : T "_law_cell_at" = some d_law_cell_at) (k : Nat) (ns : List Int) (j : Nat) : callAt T g fu (k + 1) "_law_cell_at" [.list (ns.map .int), .int j] = some (.int (ns.getD j 0)) := by
  refine call_at hT rfl ?_
  simp only [d_law_cell_at, exs, ex, ev, evs, evPart, evIt, sealE, sealIt, rd_val, rd_own, rd_succ, Lr.add_int, Lr.sub_int, fdiv_int, Lr.mod_int, bin_add, bin_sub, bin_mul, bin_fdiv, bin_mod, cmp_eq, cmp_ne, cmp_lt, cmp_le, cmp_gt, cmp_ge, cmp_in, cmp_notin, cmp_isN, cmp_isnotN, Lr.eq_int, Lr.ne_int, Lr.len_lst, Lr.len_tup, tuple_lst, tuple_tup, list_lst, list_tup, int_bl, bi_len, bi_tuple, bi_list, bi_int, bi_join, bi_any, bi_all, idx_lst, idx_tup, Lr.sl_lst, Lr.sl_tup, and_t, and_f, or_f, or_t, not_b, neg_i, cond_t, cond_f, rng1, rng2, list_of, part_i, seq_nx, seq_ret, seq_brk, seq_cont, if_t, if_f, own_some, own_val, own_non, sv_some, sv_none, bind_name, start0, Option.bind_some, Option.bind_none, Option.map_some, Option.map_none, List.map_cons, List.map_nil, List.length_cons, List.length_nil, List.replicate, List.cons_append, List.nil_append, List.getElem?_cons_zero, List.getElem?_cons_succ, List.set_cons_zero, List.set_cons_succ, Nat.reduceAdd, Nat.reduceSub, if_true, if_false, Bool.false_eq_true, reduceIte, decide_true, decide_false, Bool.and_self, Bool.and_true, Bool.true_and, Int.reduceLT, Int.reduceNeg, Nat.reduceLeDiff, List.length_map]
  by_cases h : (j : Int) < (ns.length : Int)
  · have h' : j < ns.length := by omega
    have e : atI (ns.map PyData.int) (j : Int) = some (.int ns[j]) := atI_nat (by simp [h'])
    rw [decide_eq_true h, e]
    simp only [exs, ex, ev, evs, evPart, evIt, sealE, sealIt, rd_val, rd_own, rd_succ, Lr.add_int, Lr.sub_int, fdiv_int, Lr.mod_int, bin_add, bin_sub, bin_mul, bin_fdiv, bin_mod, cmp_eq, cmp_ne, cmp_lt, cmp_le, cmp_gt, cmp_ge, cmp_in, cmp_notin, cmp_isN, cmp_isnotN, Lr.eq_int, Lr.ne_int, Lr.len_lst, Lr.len_tup, tuple_lst, tuple_tup, list_lst, list_tup, int_bl, bi_len, bi_tuple, bi_list, bi_int, bi_join, bi_any, bi_all, idx_lst, idx_tup, Lr.sl_lst, Lr.sl_tup, and_t, and_f, or_f, or_t, not_b, neg_i, cond_t, cond_f, rng1, rng2, list_of, part_i, seq_nx, seq_ret, seq_brk, seq_cont, if_t, if_f, own_some, own_val, own_non, sv_some, sv_none, bind_name, start0, Option.bind_some, Option.bind_none, Option.map_some, Option.map_none, List.map_cons, List.map_nil, List.length_cons, List.length_nil, List.replicate, List.cons_append, List.nil_append, List.getElem?_cons_zero, List.getElem?_cons_succ, List.set_cons_zero, List.set_cons_succ, Nat.reduceAdd, Nat.reduceSub, if_true, if_false, Bool.false_eq_true, reduceIte, decide_true, decide_false, Bool.and_self, Bool.and_true, Bool.true_and, Int.reduceLT, Int.reduceNeg, Nat.reduceLeDiff]
    simp [h']
  · have h' : ¬ j < ns.length := by omega
    rw [decide_eq_false h]
    simp only [exs, ex, ev, evs, evPart, evIt, sealE, sealIt, rd_val, rd_own, rd_succ, Lr.add_int, Lr.sub_int, fdiv_int, Lr.mod_int, bin_add, bin_sub, bin_mul, bin_fdiv, bin_mod, cmp_eq, cmp_ne, cmp_lt, cmp_le, cmp_gt, cmp_ge, cmp_in, cmp_notin, cmp_isN, cmp_isnotN, Lr.eq_int, Lr.ne_int, Lr.len_lst, Lr.len_tup, tuple_lst, tuple_tup, list_lst, list_tup, int_bl, bi_len, bi_tuple, bi_list, bi_int, bi_join, bi_any, bi_all, idx_lst, idx_tup, Lr.sl_lst, Lr.sl_tup, and_t, and_f, or_f, or_t, not_b, neg_i, cond_t, cond_f, rng1, rng2, list_of, part_i, seq_nx, seq_ret, seq_brk, seq_cont, if_t, if_f, own_some, own_val, own_non, sv_some, sv_none, bind_name, start0, Option.bind_some, Option.bind_none, Option.map_some, Option.map_none, List.map_cons, List.map_nil, List.length_cons, List.length_nil, List.replicate, List.cons_append, List.nil_append, List.getElem?_cons_zero, List.getElem?_cons_succ, List.set_cons_zero, List.set_cons_succ, Nat.reduceAdd, Nat.reduceSub, if_true, if_false, Bool.false_eq_true, reduceIte, decide_true, decide_false, Bool.and_self, Bool.and_true, Bool.true_and, Int.reduceLT, Int.reduceNeg, Nat.reduceLeDiff]
    simp [h']
def mixedV (ns : List Int) (j : Nat) : Int := ((ns.getD j 0 + 7919 * j + 1) * 48271 % 2147483647 * ((ns.getD j 0 + 7919 * j + 1) * 48271 % 2147483647) + 7 * ((ns.getD j 0 + 7919 * j + 1) * 48271 % 2147483647) + j) % 2147483629
theorem mixedV_nn (ns : List Int) (j : Nat) : 0 ≤ mixedV ns j := Int.emod_nonneg _ (by decide)
theorem mixedV_lt (ns : List Int) (j : Nat) : mixedV ns j < 2147483629 := Int.emod_lt_of_pos _ (by decide)
theorem mixed_ok (hT : T "_law_mixed" = some d_law_mixed) (hT2 : T "_law_cell_at" = some d_law_cell_at) (k : Nat) (ns : List Int) (j : Nat) : callAt T g fu (k + 2) "_law_mixed" [.list (ns.map .int), .int j] = some (.int (mixedV ns j)) := by
  have e1 : mulEv (.int 7919) (.int j) = some (.int (7919 * j)) := mulEv_ok (mulOk_l (by decide) (by decide))
  have e2 : ∀ x : Int, mulEv (.int x) (.int 48271) = some (.int (x * 48271)) := fun x => mulEv_ok (mulOk_r (by decide) (by decide))
  have hd : ∀ x : Int, 0 ≤ x % 2147483647 ∧ x % 2147483647 < 2147483647 := fun x => ⟨Int.emod_nonneg _ (by decide), Int.emod_lt_of_pos _ (by decide)⟩
  have e3 : ∀ x : Int, mulEv (.int (x % 2147483647)) (.int (x % 2147483647)) = some (.int (x % 2147483647 * (x % 2147483647))) := fun x => mulEv_ok (mulOk_l (by have := (hd x).1; omega) (by have := (hd x).2; omega))
  have e4 : ∀ x : Int, mulEv (.int 7) (.int x) = some (.int (7 * x)) := fun x => mulEv_ok (mulOk_l (by decide) (by decide))
  refine call_at hT rfl ?_
  simp only [d_law_mixed, exs, ex, ev, evs, evPart, evIt, sealE, sealIt, rd_val, rd_own, rd_succ, Lr.add_int, Lr.sub_int, fdiv_int, Lr.mod_int, bin_add, bin_sub, bin_mul, bin_fdiv, bin_mod, cmp_eq, cmp_ne, cmp_lt, cmp_le, cmp_gt, cmp_ge, cmp_in, cmp_notin, cmp_isN, cmp_isnotN, Lr.eq_int, Lr.ne_int, Lr.len_lst, Lr.len_tup, tuple_lst, tuple_tup, list_lst, list_tup, int_bl, bi_len, bi_tuple, bi_list, bi_int, bi_join, bi_any, bi_all, idx_lst, idx_tup, Lr.sl_lst, Lr.sl_tup, and_t, and_f, or_f, or_t, not_b, neg_i, cond_t, cond_f, rng1, rng2, list_of, part_i, seq_nx, seq_ret, seq_brk, seq_cont, if_t, if_f, own_some, own_val, own_non, sv_some, sv_none, bind_name, start0, Option.bind_some, Option.bind_none, Option.map_some, Option.map_none, List.map_cons, List.map_nil, List.length_cons, List.length_nil, List.replicate, List.cons_append, List.nil_append, List.getElem?_cons_zero, List.getElem?_cons_succ, List.set_cons_zero, List.set_cons_succ, Nat.reduceAdd, Nat.reduceSub, if_true, if_false, Bool.false_eq_true, reduceIte, decide_true, decide_false, Bool.and_self, Bool.and_true, Bool.true_and, Int.reduceLT, Int.reduceNeg, Nat.reduceLeDiff, cell_ok hT2 k ns j, e1, e2, e3, e4]
  rfl
end
end Lr
namespace Lr
open PySem PySem.Spec PyProof.Rows L2
/-! ### names, steps, talks as plain data -/
def NameOk (z : Str) : Prop := 1 ≤ z.length ∧ z.length ≤ 5 ∧ ∀ c ∈ z.cps.toList, 97 ≤ c ∧ c ≤ 122
instance (z : Str) : Decidable (NameOk z) := by unfold NameOk; exact inferInstance
inductive Stp where
  | tell (a b w : Str)
  | choice (bs : List (List Stp))
  | round (s : List Stp)
  | both (s t : List Stp)
mutual
def Stp.d : Stp → PyData
  | .tell a b w => .tuple [.str "tell", .str a, .str b, .str w]
  | .choice bs => .tuple [.str "choice", .tuple (brsD bs)]
  | .round s => .tuple [.str "round", .tuple (stsD s)]
  | .both s t => .tuple [.str "both", .tuple (stsD s), .tuple (stsD t)]
def stsD : List Stp → List PyData
  | [] => []
  | s :: r => s.d :: stsD r
def brsD : List (List Stp) → List PyData
  | [] => []
  | s :: r => .tuple (stsD s) :: brsD r
end
theorem stsD_map : ∀ s : List Stp, stsD s = s.map Stp.d
  | [] => rfl
  | a :: r => by rw [stsD, stsD_map r]; rfl
theorem brsD_map : ∀ s : List (List Stp), brsD s = s.map fun t => .tuple (stsD t)
  | [] => rfl
  | a :: r => by rw [brsD, brsD_map r]; rfl
mutual
/-- within hands hs, at most n frames around one another -/
def Stp.ok (hs : List Str) : Nat → Stp → Prop
  | _, .tell a b w => a ∈ hs ∧ b ∈ hs ∧ NameOk w
  | 0, _ => False
  | n + 1, .choice bs => 1 ≤ bs.length ∧ bs.length ≤ 3 ∧ brsOk hs n bs
  | n + 1, .round s => s.length ≤ 4 ∧ stsOk hs n s
  | n + 1, .both s t => s.length ≤ 4 ∧ stsOk hs n s ∧ t.length ≤ 4 ∧ stsOk hs n t
def stsOk (hs : List Str) : Nat → List Stp → Prop
  | _, [] => True
  | n, s :: r => s.ok hs n ∧ stsOk hs n r
def brsOk (hs : List Str) : Nat → List (List Stp) → Prop
  | _, [] => True
  | n, s :: r => s.length ≤ 4 ∧ stsOk hs n s ∧ brsOk hs n r
end
theorem stsOk_all {hs : List Str} {n : Nat} : ∀ {s : List Stp}, stsOk hs n s ↔ ∀ x ∈ s, x.ok hs n
  | [] => by simp [stsOk]
  | a :: r => by simp [stsOk, stsOk_all (s := r)]
theorem brsOk_all {hs : List Str} {n : Nat} : ∀ {s : List (List Stp)}, brsOk hs n s ↔ ∀ x ∈ s, x.length ≤ 4 ∧ stsOk hs n x
  | [] => by simp [brsOk]
  | a :: r => by
    simp only [brsOk, brsOk_all (s := r), List.mem_cons, forall_eq_or_imp, and_assoc]
def hsD (hs : List Str) : PyData := .tuple (hs.map .str)
theorem lcRun_ex {α : Type} {f : PyData → Option (Option PyData)} {e : α → PyData} {P : PyData → Prop} : ∀ {xs : List α}, (∀ x ∈ xs, ∃ y, f (e x) = some (some y) ∧ P y) → ∃ ys, lcRun f (xs.map e) = some ys ∧ ys.length = xs.length ∧ ∀ y ∈ ys, P y
  | [], _ => ⟨[], rfl, rfl, by simp⟩
  | x :: xs, h => by
    obtain ⟨y, h1, h2⟩ := h x List.mem_cons_self
    obtain ⟨ys, h3, h4, h5⟩ := lcRun_ex (xs := xs) fun z hz => h z (List.mem_cons_of_mem _ hz)
    refine ⟨y :: ys, ?_, by simp [h4], by simpa using ⟨h2, h5⟩⟩
    rw [List.map_cons]
    unfold lcRun
    rw [h1, h3]
    rfl
theorem rangeEv_ok {j : Int} (h0 : 0 ≤ j) (h1 : j ≤ 1000000) : rangeEv 0 j = some ((List.range j.toNat).map fun (k : Nat) => .int (0 + k)) := by
  unfold rangeEv
  rw [if_pos]
  · simp [rangeD]
  · simp only [Bool.and_eq_true, decC_eq, szOk]
    omega
theorem szOk_small {n : Nat} (h : n ≤ 16777216) : szOk n = true := decC_t h
section
variable {T : Tab} {g : Str → Option PyData} {fu : Nat}
theorem strs_of {P : Str → Prop} : ∀ {ds : List PyData}, (∀ y ∈ ds, ∃ z, y = .str z ∧ P z) → ∃ zs, strsD ds = some zs ∧ zs.length = ds.length ∧ ∀ z ∈ zs, P z
  | [], _ => ⟨[], rfl, rfl, by simp⟩
  | d :: ds, h => by
    obtain ⟨z, rfl, hz⟩ := h d List.mem_cons_self
    obtain ⟨zs, h1, h2, h3⟩ := strs_of (ds := ds) fun y hy => h y (List.mem_cons_of_mem _ hy)
    exact ⟨z :: zs, by unfold strsD; rw [h1]; rfl, by simp [h2], by simpa using ⟨hz, h3⟩⟩
theorem join_one : ∀ {zs : List Str}, (∀ z ∈ zs, z.length = 1 ∧ ∀ c ∈ z.cps.toList, 97 ≤ c ∧ c ≤ 122) → (Str.join "" zs).length = zs.length ∧ ∀ c ∈ (Str.join "" zs).cps.toList, 97 ≤ c ∧ c ≤ 122
  | [], _ => ⟨rfl, by intro c hc; exact absurd hc (by simp [Str.join, Str.empty])⟩
  | [z], h => by
    obtain ⟨h1, h2⟩ := h z List.mem_cons_self
    exact ⟨by simpa [Str.join] using h1, by simpa [Str.join] using h2⟩
  | z :: y :: r, h => by
    obtain ⟨h1, h2⟩ := h z List.mem_cons_self
    obtain ⟨h3, h4⟩ := join_one (zs := y :: r) fun x hx => h x (List.mem_cons_of_mem _ hx)
    have e : (Str.join "" (z :: y :: r)).cps = z.cps ++ (Str.join "" (y :: r)).cps := by
      show ((z.cps ++ (Str.ofString "").cps) ++ (Str.join "" (y :: r)).cps) = _
      have : (Str.ofString "").cps = #[] := by decide
      rw [this]; simp
    refine ⟨?_, fun c hc => ?_⟩
    · show (Str.join "" (z :: y :: r)).cps.size = _
      rw [e, Array.size_append]
      have a1 : z.cps.size = 1 := h1
      have a2 : (Str.join "" (y :: r)).cps.size = (y :: r).length := h3
      rw [a1, a2]
      simp; omega
    · rw [e] at hc
      simp only [Array.toList_append, List.mem_append] at hc
      exact hc.elim (h2 c) (h4 c)
theorem word_ok (hD : T "_law_drawn" = some d_law_drawn) (hT : T "_law_word" = some d_law_word) (k : Nat) (n : Int) : ∃ z, callAt T g fu (k + 2) "_law_word" [.int n] = some (.str z) ∧ NameOk z := by
  have h6 : 0 ≤ n % 6 ∧ n % 6 < 6 := ⟨Int.emod_nonneg _ (by decide), Int.emod_lt_of_pos _ (by decide)⟩
  by_cases h : 0 < n % 6
  · have hz : ∃ z, atI [PyData.str "hi", .str "go", .str "hi", .str "later", .str "go"] (n % 6 - 1) = some (.str z) ∧ NameOk z := by
      have : n % 6 = 1 ∨ n % 6 = 2 ∨ n % 6 = 3 ∨ n % 6 = 4 ∨ n % 6 = 5 := by omega
      rcases this with e | e | e | e | e <;> rw [e] <;> exact ⟨_, rfl, by decide⟩
    obtain ⟨z, hz, hn⟩ := hz
    refine ⟨z, call_at hT rfl ?_, hn⟩
    have s5 : szOk 5 = true := sz_ok (by decide)
    simp only [d_law_word, exs, ex, ev, evs, evPart, evIt, sealE, sealIt, rd_val, rd_own, rd_succ, Lr.add_int, Lr.sub_int, fdiv_int, Lr.mod_int, bin_add, bin_sub, bin_mul, bin_fdiv, bin_mod, cmp_eq, cmp_ne, cmp_lt, cmp_le, cmp_gt, cmp_ge, cmp_in, cmp_notin, cmp_isN, cmp_isnotN, Lr.eq_int, Lr.ne_int, Lr.len_lst, Lr.len_tup, tuple_lst, tuple_tup, list_lst, list_tup, int_bl, bi_len, bi_tuple, bi_list, bi_int, bi_join, bi_any, bi_all, idx_lst, idx_tup, Lr.sl_lst, Lr.sl_tup, and_t, and_f, or_f, or_t, not_b, neg_i, cond_t, cond_f, rng1, rng2, list_of, part_i, seq_nx, seq_ret, seq_brk, seq_cont, if_t, if_f, own_some, own_val, own_non, sv_some, sv_none, bind_name, start0, Option.bind_some, Option.bind_none, Option.map_some, Option.map_none, List.map_cons, List.map_nil, List.length_cons, List.length_nil, List.replicate, List.cons_append, List.nil_append, List.getElem?_cons_zero, List.getElem?_cons_succ, List.set_cons_zero, List.set_cons_succ, Nat.reduceAdd, Nat.reduceSub, if_true, if_false, Bool.false_eq_true, reduceIte, decide_true, decide_false, Bool.and_self, Bool.and_true, Bool.true_and, Int.reduceLT, Int.reduceNeg, Nat.reduceLeDiff, tup_d, s5]
    rw [decide_eq_true h]
    simp only [exs, ex, ev, evs, evPart, evIt, sealE, sealIt, rd_val, rd_own, rd_succ, Lr.add_int, Lr.sub_int, fdiv_int, Lr.mod_int, bin_add, bin_sub, bin_mul, bin_fdiv, bin_mod, cmp_eq, cmp_ne, cmp_lt, cmp_le, cmp_gt, cmp_ge, cmp_in, cmp_notin, cmp_isN, cmp_isnotN, Lr.eq_int, Lr.ne_int, Lr.len_lst, Lr.len_tup, tuple_lst, tuple_tup, list_lst, list_tup, int_bl, bi_len, bi_tuple, bi_list, bi_int, bi_join, bi_any, bi_all, idx_lst, idx_tup, Lr.sl_lst, Lr.sl_tup, and_t, and_f, or_f, or_t, not_b, neg_i, cond_t, cond_f, rng1, rng2, list_of, part_i, seq_nx, seq_ret, seq_brk, seq_cont, if_t, if_f, own_some, own_val, own_non, sv_some, sv_none, bind_name, start0, Option.bind_some, Option.bind_none, Option.map_some, Option.map_none, List.map_cons, List.map_nil, List.length_cons, List.length_nil, List.replicate, List.cons_append, List.nil_append, List.getElem?_cons_zero, List.getElem?_cons_succ, List.set_cons_zero, List.set_cons_succ, Nat.reduceAdd, Nat.reduceSub, if_true, if_false, Bool.false_eq_true, reduceIte, decide_true, decide_false, Bool.and_self, Bool.and_true, Bool.true_and, Int.reduceLT, Int.reduceNeg, Nat.reduceLeDiff, hz]
  · have h5 : 0 ≤ n / 6 % 5 ∧ n / 6 % 5 < 5 := ⟨Int.emod_nonneg _ (by decide), Int.emod_lt_of_pos _ (by decide)⟩
    obtain ⟨ds, h1, h2, h3⟩ := lcRun_ex (xs := List.range (1 + n / 6 % 5).toNat) (e := fun (k : Nat) => PyData.int (0 + k)) (P := fun y => ∃ z, y = .str z ∧ (z.length = 1 ∧ ∀ c ∈ z.cps.toList, 97 ≤ c ∧ c ≤ 122))
      (f := fun d => (bindT [.val (.int n), .none, .val (.str "abcdefghijklmnopqrstuvwxyz")] (.name 1) d).bind fun ρ' => (ev true ⟨callAt T g fu (k + 1), fu, g⟩ ρ' (.lit (.bool true))).bind fun b => condD b (ev false ⟨callAt T g fu (k + 1), fu, g⟩ ρ' (.idx (.var 2) (.bin .mod (.bin .fdiv (.call "_law_drawn" (.cons (.var 0) (.cons (.var 1) .nil))) (.lit (.int 4))) (.lit (.int 26)))))) (fun j _ => by
        have hb : 0 ≤ drawnV n (0 + j) / 4 % 26 ∧ drawnV n (0 + j) / 4 % 26 < 26 := ⟨Int.emod_nonneg _ (by decide), Int.emod_lt_of_pos _ (by decide)⟩
        have hc : ∃ c, atI (Str.ofString "abcdefghijklmnopqrstuvwxyz").cps.toList (drawnV n (0 + j) / 4 % 26) = some c ∧ 97 ≤ c ∧ c ≤ 122 := by
          have key : ∀ m : Nat, m < 26 → ∃ c, atI (Str.ofString "abcdefghijklmnopqrstuvwxyz").cps.toList (m : Int) = some c ∧ 97 ≤ c ∧ c ≤ 122 := by
            intro m hm
            have e : (Str.ofString "abcdefghijklmnopqrstuvwxyz").cps.toList = (List.range 26).map (· + 97) := by decide
            rw [e]
            exact ⟨m + 97, atI_nat (by simp [hm]), by omega, by omega⟩
          have := key (drawnV n (0 + j) / 4 % 26).toNat (by omega)
          rw [Int.toNat_of_nonneg hb.1] at this
          exact this
        obtain ⟨c, hc, hc2⟩ := hc
        refine ⟨.str ⟨#[c]⟩, ?_, _, rfl, rfl, by simpa using hc2⟩
        have s26 : szOk (Str.ofString "abcdefghijklmnopqrstuvwxyz").length = true := sz_ok (by decide)
        simp only [exs, ex, ev, evs, evPart, evIt, sealE, sealIt, rd_val, rd_own, rd_succ, Lr.add_int, Lr.sub_int, fdiv_int, Lr.mod_int, bin_add, bin_sub, bin_mul, bin_fdiv, bin_mod, cmp_eq, cmp_ne, cmp_lt, cmp_le, cmp_gt, cmp_ge, cmp_in, cmp_notin, cmp_isN, cmp_isnotN, Lr.eq_int, Lr.ne_int, Lr.len_lst, Lr.len_tup, tuple_lst, tuple_tup, list_lst, list_tup, int_bl, bi_len, bi_tuple, bi_list, bi_int, bi_join, bi_any, bi_all, idx_lst, idx_tup, Lr.sl_lst, Lr.sl_tup, and_t, and_f, or_f, or_t, not_b, neg_i, cond_t, cond_f, rng1, rng2, list_of, part_i, seq_nx, seq_ret, seq_brk, seq_cont, if_t, if_f, own_some, own_val, own_non, sv_some, sv_none, bind_name, start0, Option.bind_some, Option.bind_none, Option.map_some, Option.map_none, List.map_cons, List.map_nil, List.length_cons, List.length_nil, List.replicate, List.cons_append, List.nil_append, List.getElem?_cons_zero, List.getElem?_cons_succ, List.set_cons_zero, List.set_cons_succ, Nat.reduceAdd, Nat.reduceSub, if_true, if_false, Bool.false_eq_true, reduceIte, decide_true, decide_false, Bool.and_self, Bool.and_true, Bool.true_and, Int.reduceLT, Int.reduceNeg, Nat.reduceLeDiff, drawn_ok hD, idx_str, s26, hc])
    obtain ⟨zs, h4, h5', h6'⟩ := strs_of h3
    obtain ⟨h7, h8⟩ := join_one h6'
    have hlen : zs.length = (1 + n / 6 % 5).toNat := by rw [h5', h2, List.length_range]
    refine ⟨Str.join "" zs, call_at hT rfl ?_, by rw [h7, hlen]; omega, by rw [h7, hlen]; omega, h8⟩
    simp only [d_law_word, exs, ex, ev, evs, evPart, evIt, sealE, sealIt, rd_val, rd_own, rd_succ, Lr.add_int, Lr.sub_int, fdiv_int, Lr.mod_int, bin_add, bin_sub, bin_mul, bin_fdiv, bin_mod, cmp_eq, cmp_ne, cmp_lt, cmp_le, cmp_gt, cmp_ge, cmp_in, cmp_notin, cmp_isN, cmp_isnotN, Lr.eq_int, Lr.ne_int, Lr.len_lst, Lr.len_tup, tuple_lst, tuple_tup, list_lst, list_tup, int_bl, bi_len, bi_tuple, bi_list, bi_int, bi_join, bi_any, bi_all, idx_lst, idx_tup, Lr.sl_lst, Lr.sl_tup, and_t, and_f, or_f, or_t, not_b, neg_i, cond_t, cond_f, rng1, rng2, list_of, part_i, seq_nx, seq_ret, seq_brk, seq_cont, if_t, if_f, own_some, own_val, own_non, sv_some, sv_none, bind_name, start0, Option.bind_some, Option.bind_none, Option.map_some, Option.map_none, List.map_cons, List.map_nil, List.length_cons, List.length_nil, List.replicate, List.cons_append, List.nil_append, List.getElem?_cons_zero, List.getElem?_cons_succ, List.set_cons_zero, List.set_cons_succ, Nat.reduceAdd, Nat.reduceSub, if_true, if_false, Bool.false_eq_true, reduceIte, decide_true, decide_false, Bool.and_self, Bool.and_true, Bool.true_and, Int.reduceLT, Int.reduceNeg, Nat.reduceLeDiff]
    rw [decide_eq_false h]
    simp only [exs, ex, ev, evs, evPart, evIt, sealE, sealIt, rd_val, rd_own, rd_succ, Lr.add_int, Lr.sub_int, fdiv_int, Lr.mod_int, bin_add, bin_sub, bin_mul, bin_fdiv, bin_mod, cmp_eq, cmp_ne, cmp_lt, cmp_le, cmp_gt, cmp_ge, cmp_in, cmp_notin, cmp_isN, cmp_isnotN, Lr.eq_int, Lr.ne_int, Lr.len_lst, Lr.len_tup, tuple_lst, tuple_tup, list_lst, list_tup, int_bl, bi_len, bi_tuple, bi_list, bi_int, bi_join, bi_any, bi_all, idx_lst, idx_tup, Lr.sl_lst, Lr.sl_tup, and_t, and_f, or_f, or_t, not_b, neg_i, cond_t, cond_f, rng1, rng2, list_of, part_i, seq_nx, seq_ret, seq_brk, seq_cont, if_t, if_f, own_some, own_val, own_non, sv_some, sv_none, bind_name, start0, Option.bind_some, Option.bind_none, Option.map_some, Option.map_none, List.map_cons, List.map_nil, List.length_cons, List.length_nil, List.replicate, List.cons_append, List.nil_append, List.getElem?_cons_zero, List.getElem?_cons_succ, List.set_cons_zero, List.set_cons_succ, Nat.reduceAdd, Nat.reduceSub, if_true, if_false, Bool.false_eq_true, reduceIte, decide_true, decide_false, Bool.and_self, Bool.and_true, Bool.true_and, Int.reduceLT, Int.reduceNeg, Nat.reduceLeDiff, rangeEv_ok (j := 1 + n / 6 % 5) (by omega) (by omega)]
    simp only [exs, ex, ev, evs, evPart, evIt, sealE, sealIt, rd_val, rd_own, rd_succ, Lr.add_int, Lr.sub_int, fdiv_int, Lr.mod_int, bin_add, bin_sub, bin_mul, bin_fdiv, bin_mod, cmp_eq, cmp_ne, cmp_lt, cmp_le, cmp_gt, cmp_ge, cmp_in, cmp_notin, cmp_isN, cmp_isnotN, Lr.eq_int, Lr.ne_int, Lr.len_lst, Lr.len_tup, tuple_lst, tuple_tup, list_lst, list_tup, int_bl, bi_len, bi_tuple, bi_list, bi_int, bi_join, bi_any, bi_all, idx_lst, idx_tup, Lr.sl_lst, Lr.sl_tup, and_t, and_f, or_f, or_t, not_b, neg_i, cond_t, cond_f, rng1, rng2, list_of, part_i, seq_nx, seq_ret, seq_brk, seq_cont, if_t, if_f, own_some, own_val, own_non, sv_some, sv_none, bind_name, start0, Option.bind_some, Option.bind_none, Option.map_some, Option.map_none, List.map_cons, List.map_nil, List.length_cons, List.length_nil, List.replicate, List.cons_append, List.nil_append, List.getElem?_cons_zero, List.getElem?_cons_succ, List.set_cons_zero, List.set_cons_succ, Nat.reduceAdd, Nat.reduceSub, if_true, if_false, Bool.false_eq_true, reduceIte, decide_true, decide_false, Bool.and_self, Bool.and_true, Bool.true_and, Int.reduceLT, Int.reduceNeg, Nat.reduceLeDiff] at h1
    rw [h1]
    simp only [exs, ex, ev, evs, evPart, evIt, sealE, sealIt, rd_val, rd_own, rd_succ, Lr.add_int, Lr.sub_int, fdiv_int, Lr.mod_int, bin_add, bin_sub, bin_mul, bin_fdiv, bin_mod, cmp_eq, cmp_ne, cmp_lt, cmp_le, cmp_gt, cmp_ge, cmp_in, cmp_notin, cmp_isN, cmp_isnotN, Lr.eq_int, Lr.ne_int, Lr.len_lst, Lr.len_tup, tuple_lst, tuple_tup, list_lst, list_tup, int_bl, bi_len, bi_tuple, bi_list, bi_int, bi_join, bi_any, bi_all, idx_lst, idx_tup, Lr.sl_lst, Lr.sl_tup, and_t, and_f, or_f, or_t, not_b, neg_i, cond_t, cond_f, rng1, rng2, list_of, part_i, seq_nx, seq_ret, seq_brk, seq_cont, if_t, if_f, own_some, own_val, own_non, sv_some, sv_none, bind_name, start0, Option.bind_some, Option.bind_none, Option.map_some, Option.map_none, List.map_cons, List.map_nil, List.length_cons, List.length_nil, List.replicate, List.cons_append, List.nil_append, List.getElem?_cons_zero, List.getElem?_cons_succ, List.set_cons_zero, List.set_cons_succ, Nat.reduceAdd, Nat.reduceSub, if_true, if_false, Bool.false_eq_true, reduceIte, decide_true, decide_false, Bool.and_self, Bool.and_true, Bool.true_and, Int.reduceLT, Int.reduceNeg, Nat.reduceLeDiff, joinEv, h4]
    have hj : joinOk "" zs = true := by
      unfold joinOk
      have : ∀ l : List Str, (∀ z ∈ l, z.length = 1) → (l.map (·.length)).sum = l.length := by
        intro l
        induction l with
        | nil => intro _; rfl
        | cons a r ih => intro hl; simp [ih fun z hz => hl z (List.mem_cons_of_mem _ hz), hl a List.mem_cons_self]; omega
      rw [this zs fun z hz => (h6' z hz).1, hlen]
      have e0 : (Str.ofString "").length = 0 := rfl
      rw [e0]
      exact decC_t (by omega)
    rw [hj]
    simp only [exs, ex, ev, evs, evPart, evIt, sealE, sealIt, rd_val, rd_own, rd_succ, Lr.add_int, Lr.sub_int, fdiv_int, Lr.mod_int, bin_add, bin_sub, bin_mul, bin_fdiv, bin_mod, cmp_eq, cmp_ne, cmp_lt, cmp_le, cmp_gt, cmp_ge, cmp_in, cmp_notin, cmp_isN, cmp_isnotN, Lr.eq_int, Lr.ne_int, Lr.len_lst, Lr.len_tup, tuple_lst, tuple_tup, list_lst, list_tup, int_bl, bi_len, bi_tuple, bi_list, bi_int, bi_join, bi_any, bi_all, idx_lst, idx_tup, Lr.sl_lst, Lr.sl_tup, and_t, and_f, or_f, or_t, not_b, neg_i, cond_t, cond_f, rng1, rng2, list_of, part_i, seq_nx, seq_ret, seq_brk, seq_cont, if_t, if_f, own_some, own_val, own_non, sv_some, sv_none, bind_name, start0, Option.bind_some, Option.bind_none, Option.map_some, Option.map_none, List.map_cons, List.map_nil, List.length_cons, List.length_nil, List.replicate, List.cons_append, List.nil_append, List.getElem?_cons_zero, List.getElem?_cons_succ, List.set_cons_zero, List.set_cons_succ, Nat.reduceAdd, Nat.reduceSub, if_true, if_false, Bool.false_eq_true, reduceIte, decide_true, decide_false, Bool.and_self, Bool.and_true, Bool.true_and, Int.reduceLT, Int.reduceNeg, Nat.reduceLeDiff]
    rw [show Txt.join (Str.ofString "") zs = Str.join "" zs from PySem.StrLaws.glued_eq_join _ _]
end
end Lr
namespace Lr
open PySem PySem.Spec PyProof.Rows L2
section
variable {T : Tab} {g : Str → Option PyData} {fu : Nat}
structure Gen (T : Tab) : Prop where
  drawn : T "_law_drawn" = some d_law_drawn
  word : T "_law_word" = some d_law_word
  step : T "_law_step" = some d_law_step
  steps : T "_law_steps" = some d_law_steps
theorem at_hand {hs : List Str} (h : 0 < hs.length) (n : Int) : ∃ a, atI (hs.map PyData.str) (n % ((hs.map PyData.str).length : Int)) = some (.str a) ∧ a ∈ hs := by
  rw [List.length_map]
  have h1 : 0 ≤ n % (hs.length : Int) := Int.emod_nonneg _ (by omega)
  have h2 : n % (hs.length : Int) < hs.length := Int.emod_lt_of_pos _ (by omega)
  have h3 : (n % (hs.length : Int)).toNat < hs.length := by omega
  refine ⟨hs[(n % (hs.length : Int)).toNat], ?_, List.getElem_mem _⟩
  have q : atI (hs.map PyData.str) ((n % (hs.length : Int)).toNat : Int) = some (.str hs[(n % (hs.length : Int)).toNat]) := atI_nat (by simp [h3])
  rw [Int.toNat_of_nonneg h1] at q
  exact q
theorem sts_of {hs : List Str} {n : Nat} : ∀ {ds : List PyData}, (∀ y ∈ ds, ∃ s : Stp, y = s.d ∧ s.ok hs n) → ∃ ss : List Stp, ds = stsD ss ∧ ss.length = ds.length ∧ stsOk hs n ss
  | [], _ => ⟨[], rfl, rfl, by simp [stsOk]⟩
  | d :: ds, h => by
    obtain ⟨s, rfl, hs'⟩ := h d List.mem_cons_self
    obtain ⟨ss, h1, h2, h3⟩ := sts_of (ds := ds) fun y hy => h y (List.mem_cons_of_mem _ hy)
    exact ⟨s :: ss, by rw [stsD, h1], by simp [h2], by unfold stsOk; exact ⟨hs', h3⟩⟩
theorem brs_of {hs : List Str} {n : Nat} : ∀ {ds : List PyData}, (∀ y ∈ ds, ∃ s : List Stp, y = .tuple (stsD s) ∧ s.length ≤ 2 ∧ stsOk hs n s) → ∃ ss : List (List Stp), ds = brsD ss ∧ ss.length = ds.length ∧ brsOk hs n ss
  | [], _ => ⟨[], rfl, rfl, by simp [brsOk]⟩
  | d :: ds, h => by
    obtain ⟨s, rfl, hl, hs'⟩ := h d List.mem_cons_self
    obtain ⟨ss, h1, h2, h3⟩ := brs_of (ds := ds) fun y hy => h y (List.mem_cons_of_mem _ hy)
    exact ⟨s :: ss, by rw [brsD, h1], by simp [h2], by unfold brsOk; exact ⟨by omega, hs', h3⟩⟩
def StepsAt (T : Tab) (g : Str → Option PyData) (fu : Nat) (hs : List Str) (deep k : Nat) : Prop :=
  ∀ (n : Int) (most : Nat), most ≤ 4 → ∃ s : List Stp, callAt T g fu k "_law_steps" [.int n, hsD hs, .int deep, .int most] = some (.tuple (stsD s)) ∧ s.length ≤ most ∧ stsOk hs deep s
def StepAt (T : Tab) (g : Str → Option PyData) (fu : Nat) (hs : List Str) (deep k : Nat) : Prop :=
  ∀ n : Int, ∃ s : Stp, callAt T g fu k "_law_step" [.int n, hsD hs, .int deep] = some s.d ∧ s.ok hs deep
theorem sz1 : szOk 1 = true := sz_ok (by decide)
theorem sz2 : szOk 2 = true := sz_ok (by decide)
theorem sz3 : szOk 3 = true := sz_ok (by decide)
theorem sz4 : szOk 4 = true := sz_ok (by decide)
theorem sz5 : szOk 5 = true := sz_ok (by decide)
theorem sz0 : szOk 0 = true := sz_ok (by decide)
theorem tell_ok (G : Gen T) {hs : List Str} (h0 : 0 < hs.length) (deep k : Nat) (n : Int) (hk : deep = 0 ∨ n % 7 < 3) : ∃ s : Stp, callAt T g fu (k + 3) "_law_step" [.int n, hsD hs, .int deep] = some s.d ∧ s.ok hs deep := by
  obtain ⟨w, hw, hn⟩ := word_ok (g := g) (fu := fu) G.drawn G.word k (n / 512)
  obtain ⟨a, ha, ha2⟩ := at_hand h0 (n / 8)
  obtain ⟨b, hb, hb2⟩ := at_hand h0 (n / 64)
  refine ⟨.tell a b w, call_at G.step rfl ?_, ?_⟩
  · have hl : (0 : Int) < ((hs.map PyData.str).length : Int) := by rw [List.length_map]; omega
    have hc : orD (.bool (decide ((deep : Int) = 0))) (some (.bool (decide (n % 7 < 3)))) = some (.bool true) := by
      by_cases e : (deep : Int) = 0
      · rw [decide_eq_true e]; rfl
      · rw [decide_eq_false e]
        have : n % 7 < 3 := by rcases hk with h | h; exact absurd (by omega) e; exact h
        rw [decide_eq_true this]; rfl
    simp only [d_law_step, hsD, exs, ex, ev, evs, evPart, evIt, sealE, sealIt, rd_val, rd_own, rd_succ, Lr.add_int, Lr.sub_int, fdiv_int, Lr.mod_int, bin_add, bin_sub, bin_mul, bin_fdiv, bin_mod, cmp_eq, cmp_ne, cmp_lt, cmp_le, cmp_gt, cmp_ge, cmp_in, cmp_notin, cmp_isN, cmp_isnotN, Lr.eq_int, Lr.ne_int, Lr.len_lst, Lr.len_tup, tuple_lst, tuple_tup, list_lst, list_tup, int_bl, bi_len, bi_tuple, bi_list, bi_int, bi_join, bi_any, bi_all, idx_lst, idx_tup, Lr.sl_lst, Lr.sl_tup, and_t, and_f, or_f, or_t, not_b, neg_i, cond_t, cond_f, rng1, rng2, list_of, part_i, seq_nx, seq_ret, seq_brk, seq_cont, if_t, if_f, own_some, own_val, own_non, sv_some, sv_none, bind_name, start0, Option.bind_some, Option.bind_none, Option.map_some, Option.map_none, List.map_cons, List.map_nil, List.length_cons, List.length_nil, List.replicate, List.cons_append, List.nil_append, List.getElem?_cons_zero, List.getElem?_cons_succ, List.set_cons_zero, List.set_cons_succ, Nat.reduceAdd, Nat.reduceSub, if_true, if_false, Bool.false_eq_true, reduceIte, decide_true, decide_false, Bool.and_self, Bool.and_true, Bool.true_and, Int.reduceLT, Int.reduceNeg, Nat.reduceLeDiff, hc, decide_eq_true hl, ha, hb, hw, tup_d, sz4]
    rfl
  · cases deep <;> (unfold Stp.ok; exact ⟨ha2, hb2, hn⟩)
theorem steps_of_step (G : Gen T) {hs : List Str} {deep k : Nat} (h : StepAt T g fu hs deep (k + 1)) : StepsAt T g fu hs deep (k + 2) := by
  intro n most hm
  have h5 : 0 ≤ n % ((most : Int) + 1) ∧ n % ((most : Int) + 1) < (most : Int) + 1 := ⟨Int.emod_nonneg _ (by omega), Int.emod_lt_of_pos _ (by omega)⟩
  obtain ⟨ds, h1, h2, h3⟩ := lcRun_ex (xs := List.range (n % ((most : Int) + 1)).toNat) (e := fun (k : Nat) => PyData.int (0 + k)) (P := fun y => ∃ s : Stp, y = s.d ∧ s.ok hs deep)
    (f := fun d => (bindT [.val (.int n), .val (hsD hs), .val (.int deep), .val (.int most), .none] (.name 4) d).bind fun ρ' => (ev true ⟨callAt T g fu (k + 1), fu, g⟩ ρ' (.lit (.bool true))).bind fun b => condD b (ev false ⟨callAt T g fu (k + 1), fu, g⟩ ρ' (.call "_law_step" (.cons (.bin .fdiv (.call "_law_drawn" (.cons (.var 0) (.cons (.bin .add (.lit (.int 10)) (.var 4)) .nil))) (.lit (.int 4))) (.cons (.var 1) (.cons (.var 2) .nil)))))) (fun j _ => by
      obtain ⟨s, q1, q2⟩ := h (drawnV n (10 + (0 + j)) / 4)
      refine ⟨s.d, ?_, s, rfl, q2⟩
      simp only [exs, ex, ev, evs, evPart, evIt, sealE, sealIt, rd_val, rd_own, rd_succ, Lr.add_int, Lr.sub_int, fdiv_int, Lr.mod_int, bin_add, bin_sub, bin_mul, bin_fdiv, bin_mod, cmp_eq, cmp_ne, cmp_lt, cmp_le, cmp_gt, cmp_ge, cmp_in, cmp_notin, cmp_isN, cmp_isnotN, Lr.eq_int, Lr.ne_int, Lr.len_lst, Lr.len_tup, tuple_lst, tuple_tup, list_lst, list_tup, int_bl, bi_len, bi_tuple, bi_list, bi_int, bi_join, bi_any, bi_all, idx_lst, idx_tup, Lr.sl_lst, Lr.sl_tup, and_t, and_f, or_f, or_t, not_b, neg_i, cond_t, cond_f, rng1, rng2, list_of, part_i, seq_nx, seq_ret, seq_brk, seq_cont, if_t, if_f, own_some, own_val, own_non, sv_some, sv_none, bind_name, start0, Option.bind_some, Option.bind_none, Option.map_some, Option.map_none, List.map_cons, List.map_nil, List.length_cons, List.length_nil, List.replicate, List.cons_append, List.nil_append, List.getElem?_cons_zero, List.getElem?_cons_succ, List.set_cons_zero, List.set_cons_succ, Nat.reduceAdd, Nat.reduceSub, if_true, if_false, Bool.false_eq_true, reduceIte, decide_true, decide_false, Bool.and_self, Bool.and_true, Bool.true_and, Int.reduceLT, Int.reduceNeg, Nat.reduceLeDiff, drawn_ok G.drawn, q1])
  obtain ⟨ss, rfl, h4, h6⟩ := sts_of h3
  refine ⟨ss, call_at G.steps rfl ?_, by rw [h4, h2, List.length_range]; omega, h6⟩
  have hp : (0 : Int) < (most : Int) + 1 := by omega
  simp only [d_law_steps, exs, ex, ev, evs, evPart, evIt, sealE, sealIt, rd_val, rd_own, rd_succ, Lr.add_int, Lr.sub_int, fdiv_int, Lr.mod_int, bin_add, bin_sub, bin_mul, bin_fdiv, bin_mod, cmp_eq, cmp_ne, cmp_lt, cmp_le, cmp_gt, cmp_ge, cmp_in, cmp_notin, cmp_isN, cmp_isnotN, Lr.eq_int, Lr.ne_int, Lr.len_lst, Lr.len_tup, tuple_lst, tuple_tup, list_lst, list_tup, int_bl, bi_len, bi_tuple, bi_list, bi_int, bi_join, bi_any, bi_all, idx_lst, idx_tup, Lr.sl_lst, Lr.sl_tup, and_t, and_f, or_f, or_t, not_b, neg_i, cond_t, cond_f, rng1, rng2, list_of, part_i, seq_nx, seq_ret, seq_brk, seq_cont, if_t, if_f, own_some, own_val, own_non, sv_some, sv_none, bind_name, start0, Option.bind_some, Option.bind_none, Option.map_some, Option.map_none, List.map_cons, List.map_nil, List.length_cons, List.length_nil, List.replicate, List.cons_append, List.nil_append, List.getElem?_cons_zero, List.getElem?_cons_succ, List.set_cons_zero, List.set_cons_succ, Nat.reduceAdd, Nat.reduceSub, if_true, if_false, Bool.false_eq_true, reduceIte, decide_true, decide_false, Bool.and_self, Bool.and_true, Bool.true_and, Int.reduceLT, Int.reduceNeg, Nat.reduceLeDiff, decide_eq_true hp, rangeEv_ok (j := n % ((most : Int) + 1)) h5.1 (by omega)]
  simp only [exs, ex, ev, evs, evPart, evIt, sealE, sealIt, rd_val, rd_own, rd_succ, Lr.add_int, Lr.sub_int, fdiv_int, Lr.mod_int, bin_add, bin_sub, bin_mul, bin_fdiv, bin_mod, cmp_eq, cmp_ne, cmp_lt, cmp_le, cmp_gt, cmp_ge, cmp_in, cmp_notin, cmp_isN, cmp_isnotN, Lr.eq_int, Lr.ne_int, Lr.len_lst, Lr.len_tup, tuple_lst, tuple_tup, list_lst, list_tup, int_bl, bi_len, bi_tuple, bi_list, bi_int, bi_join, bi_any, bi_all, idx_lst, idx_tup, Lr.sl_lst, Lr.sl_tup, and_t, and_f, or_f, or_t, not_b, neg_i, cond_t, cond_f, rng1, rng2, list_of, part_i, seq_nx, seq_ret, seq_brk, seq_cont, if_t, if_f, own_some, own_val, own_non, sv_some, sv_none, bind_name, start0, Option.bind_some, Option.bind_none, Option.map_some, Option.map_none, List.map_cons, List.map_nil, List.length_cons, List.length_nil, List.replicate, List.cons_append, List.nil_append, List.getElem?_cons_zero, List.getElem?_cons_succ, List.set_cons_zero, List.set_cons_succ, Nat.reduceAdd, Nat.reduceSub, if_true, if_false, Bool.false_eq_true, reduceIte, decide_true, decide_false, Bool.and_self, Bool.and_true, Bool.true_and, Int.reduceLT, Int.reduceNeg, Nat.reduceLeDiff] at h1
  rw [h1]
  simp only [exs, ex, ev, evs, evPart, evIt, sealE, sealIt, rd_val, rd_own, rd_succ, Lr.add_int, Lr.sub_int, fdiv_int, Lr.mod_int, bin_add, bin_sub, bin_mul, bin_fdiv, bin_mod, cmp_eq, cmp_ne, cmp_lt, cmp_le, cmp_gt, cmp_ge, cmp_in, cmp_notin, cmp_isN, cmp_isnotN, Lr.eq_int, Lr.ne_int, Lr.len_lst, Lr.len_tup, tuple_lst, tuple_tup, list_lst, list_tup, int_bl, bi_len, bi_tuple, bi_list, bi_int, bi_join, bi_any, bi_all, idx_lst, idx_tup, Lr.sl_lst, Lr.sl_tup, and_t, and_f, or_f, or_t, not_b, neg_i, cond_t, cond_f, rng1, rng2, list_of, part_i, seq_nx, seq_ret, seq_brk, seq_cont, if_t, if_f, own_some, own_val, own_non, sv_some, sv_none, bind_name, start0, Option.bind_some, Option.bind_none, Option.map_some, Option.map_none, List.map_cons, List.map_nil, List.length_cons, List.length_nil, List.replicate, List.cons_append, List.nil_append, List.getElem?_cons_zero, List.getElem?_cons_succ, List.set_cons_zero, List.set_cons_succ, Nat.reduceAdd, Nat.reduceSub, if_true, if_false, Bool.false_eq_true, reduceIte, decide_true, decide_false, Bool.and_self, Bool.and_true, Bool.true_and, Int.reduceLT, Int.reduceNeg, Nat.reduceLeDiff]
theorem step_of_steps (G : Gen T) {hs : List Str} (h0 : 0 < hs.length) {deep k : Nat} (h : StepsAt T g fu hs deep (k + 2)) : StepAt T g fu hs (deep + 1) (k + 3) := by
  intro n
  have h7 : 0 ≤ n % 7 ∧ n % 7 < 7 := ⟨Int.emod_nonneg _ (by decide), Int.emod_lt_of_pos _ (by decide)⟩
  by_cases hk : n % 7 < 3
  · exact tell_ok G h0 (deep + 1) k n (.inr hk)
  have hd : (((deep + 1 : Nat) : Int) = 0) = False := by simp; omega
  have hd1 : ((deep + 1 : Nat) : Int) - 1 = (deep : Nat) := by omega
  by_cases hk5 : n % 7 < 5
  · have h3' : 0 ≤ n / 8 % 3 ∧ n / 8 % 3 < 3 := ⟨Int.emod_nonneg _ (by decide), Int.emod_lt_of_pos _ (by decide)⟩
    obtain ⟨ds, h1, h2, h3⟩ := lcRun_ex (xs := List.range (1 + n / 8 % 3).toNat) (e := fun (k : Nat) => PyData.int (0 + k)) (P := fun y => ∃ s : List Stp, y = .tuple (stsD s) ∧ s.length ≤ 2 ∧ stsOk hs deep s)
      (f := fun d => (bindT [.val (.int n), .val (hsD hs), .val (.int (deep + 1 : Nat)), .none, .none, .none, .none, .val (.int (n % 7)), .val (.int (1 + n / 8 % 3)), .none] (.name 6) d).bind fun ρ' => (ev true ⟨callAt T g fu (k + 2), fu, g⟩ ρ' (.lit (.bool true))).bind fun b => condD b (ev false ⟨callAt T g fu (k + 2), fu, g⟩ ρ' (.call "_law_steps" (.cons (.bin .fdiv (.call "_law_drawn" (.cons (.var 0) (.cons (.var 6) .nil))) (.lit (.int 4))) (.cons (.var 1) (.cons (.bin .sub (.var 2) (.lit (.int 1))) (.cons (.lit (.int 2)) .nil))))))) (fun j _ => by
        obtain ⟨s, q1, q2, q3⟩ := h (drawnV n (0 + j) / 4) 2 (by decide)
        refine ⟨.tuple (stsD s), ?_, s, rfl, q2, q3⟩
        have q1 : callAt T g fu (k + 2) "_law_steps" [.int (drawnV n (0 + j) / 4), hsD hs, .int deep, .int 2] = some (.tuple (stsD s)) := q1
        simp only [exs, ex, ev, evs, evPart, evIt, sealE, sealIt, rd_val, rd_own, rd_succ, Lr.add_int, Lr.sub_int, fdiv_int, Lr.mod_int, bin_add, bin_sub, bin_mul, bin_fdiv, bin_mod, cmp_eq, cmp_ne, cmp_lt, cmp_le, cmp_gt, cmp_ge, cmp_in, cmp_notin, cmp_isN, cmp_isnotN, Lr.eq_int, Lr.ne_int, Lr.len_lst, Lr.len_tup, tuple_lst, tuple_tup, list_lst, list_tup, int_bl, bi_len, bi_tuple, bi_list, bi_int, bi_join, bi_any, bi_all, idx_lst, idx_tup, Lr.sl_lst, Lr.sl_tup, and_t, and_f, or_f, or_t, not_b, neg_i, cond_t, cond_f, rng1, rng2, list_of, part_i, seq_nx, seq_ret, seq_brk, seq_cont, if_t, if_f, own_some, own_val, own_non, sv_some, sv_none, bind_name, start0, Option.bind_some, Option.bind_none, Option.map_some, Option.map_none, List.map_cons, List.map_nil, List.length_cons, List.length_nil, List.replicate, List.cons_append, List.nil_append, List.getElem?_cons_zero, List.getElem?_cons_succ, List.set_cons_zero, List.set_cons_succ, Nat.reduceAdd, Nat.reduceSub, if_true, if_false, Bool.false_eq_true, reduceIte, decide_true, decide_false, Bool.and_self, Bool.and_true, Bool.true_and, Int.reduceLT, Int.reduceNeg, Nat.reduceLeDiff, drawn_ok G.drawn, hd1, q1])
    obtain ⟨bs', rfl, h4, h6⟩ := brs_of h3
    have hbl : bs'.length = (1 + n / 8 % 3).toNat := by rw [h4, h2, List.length_range]
    refine ⟨.choice bs', call_at G.step rfl ?_, ?_⟩
    · simp only [d_law_step, exs, ex, ev, evs, evPart, evIt, sealE, sealIt, rd_val, rd_own, rd_succ, Lr.add_int, Lr.sub_int, fdiv_int, Lr.mod_int, bin_add, bin_sub, bin_mul, bin_fdiv, bin_mod, cmp_eq, cmp_ne, cmp_lt, cmp_le, cmp_gt, cmp_ge, cmp_in, cmp_notin, cmp_isN, cmp_isnotN, Lr.eq_int, Lr.ne_int, Lr.len_lst, Lr.len_tup, tuple_lst, tuple_tup, list_lst, list_tup, int_bl, bi_len, bi_tuple, bi_list, bi_int, bi_join, bi_any, bi_all, idx_lst, idx_tup, Lr.sl_lst, Lr.sl_tup, and_t, and_f, or_f, or_t, not_b, neg_i, cond_t, cond_f, rng1, rng2, list_of, part_i, seq_nx, seq_ret, seq_brk, seq_cont, if_t, if_f, own_some, own_val, own_non, sv_some, sv_none, bind_name, start0, Option.bind_some, Option.bind_none, Option.map_some, Option.map_none, List.map_cons, List.map_nil, List.length_cons, List.length_nil, List.replicate, List.cons_append, List.nil_append, List.getElem?_cons_zero, List.getElem?_cons_succ, List.set_cons_zero, List.set_cons_succ, Nat.reduceAdd, Nat.reduceSub, if_true, if_false, Bool.false_eq_true, reduceIte, decide_true, decide_false, Bool.and_self, Bool.and_true, Bool.true_and, Int.reduceLT, Int.reduceNeg, Nat.reduceLeDiff, hd, decide_eq_false hk, decide_eq_true hk5, rangeEv_ok (j := 1 + n / 8 % 3) (by omega) (by omega)]
      simp only [exs, ex, ev, evs, evPart, evIt, sealE, sealIt, rd_val, rd_own, rd_succ, Lr.add_int, Lr.sub_int, fdiv_int, Lr.mod_int, bin_add, bin_sub, bin_mul, bin_fdiv, bin_mod, cmp_eq, cmp_ne, cmp_lt, cmp_le, cmp_gt, cmp_ge, cmp_in, cmp_notin, cmp_isN, cmp_isnotN, Lr.eq_int, Lr.ne_int, Lr.len_lst, Lr.len_tup, tuple_lst, tuple_tup, list_lst, list_tup, int_bl, bi_len, bi_tuple, bi_list, bi_int, bi_join, bi_any, bi_all, idx_lst, idx_tup, Lr.sl_lst, Lr.sl_tup, and_t, and_f, or_f, or_t, not_b, neg_i, cond_t, cond_f, rng1, rng2, list_of, part_i, seq_nx, seq_ret, seq_brk, seq_cont, if_t, if_f, own_some, own_val, own_non, sv_some, sv_none, bind_name, start0, Option.bind_some, Option.bind_none, Option.map_some, Option.map_none, List.map_cons, List.map_nil, List.length_cons, List.length_nil, List.replicate, List.cons_append, List.nil_append, List.getElem?_cons_zero, List.getElem?_cons_succ, List.set_cons_zero, List.set_cons_succ, Nat.reduceAdd, Nat.reduceSub, if_true, if_false, Bool.false_eq_true, reduceIte, decide_true, decide_false, Bool.and_self, Bool.and_true, Bool.true_and, Int.reduceLT, Int.reduceNeg, Nat.reduceLeDiff] at h1
      rw [h1]
      simp only [exs, ex, ev, evs, evPart, evIt, sealE, sealIt, rd_val, rd_own, rd_succ, Lr.add_int, Lr.sub_int, fdiv_int, Lr.mod_int, bin_add, bin_sub, bin_mul, bin_fdiv, bin_mod, cmp_eq, cmp_ne, cmp_lt, cmp_le, cmp_gt, cmp_ge, cmp_in, cmp_notin, cmp_isN, cmp_isnotN, Lr.eq_int, Lr.ne_int, Lr.len_lst, Lr.len_tup, tuple_lst, tuple_tup, list_lst, list_tup, int_bl, bi_len, bi_tuple, bi_list, bi_int, bi_join, bi_any, bi_all, idx_lst, idx_tup, Lr.sl_lst, Lr.sl_tup, and_t, and_f, or_f, or_t, not_b, neg_i, cond_t, cond_f, rng1, rng2, list_of, part_i, seq_nx, seq_ret, seq_brk, seq_cont, if_t, if_f, own_some, own_val, own_non, sv_some, sv_none, bind_name, start0, Option.bind_some, Option.bind_none, Option.map_some, Option.map_none, List.map_cons, List.map_nil, List.length_cons, List.length_nil, List.replicate, List.cons_append, List.nil_append, List.getElem?_cons_zero, List.getElem?_cons_succ, List.set_cons_zero, List.set_cons_succ, Nat.reduceAdd, Nat.reduceSub, if_true, if_false, Bool.false_eq_true, reduceIte, decide_true, decide_false, Bool.and_self, Bool.and_true, Bool.true_and, Int.reduceLT, Int.reduceNeg, Nat.reduceLeDiff, tup_d, sz2]
      rfl
    · unfold Stp.ok
      exact ⟨by omega, by omega, h6⟩
  · obtain ⟨s, q1, q2, q3⟩ := h (drawnV n 4 / 4) 2 (by decide)
    have q1 : callAt T g fu (k + 2) "_law_steps" [.int (drawnV n 4 / 4), hsD hs, .int deep, .int 2] = some (.tuple (stsD s)) := q1
    by_cases hk6 : n % 7 = 5
    · refine ⟨.round s, call_at G.step rfl ?_, by unfold Stp.ok; exact ⟨by omega, q3⟩⟩
      simp only [d_law_step, exs, ex, ev, evs, evPart, evIt, sealE, sealIt, rd_val, rd_own, rd_succ, Lr.add_int, Lr.sub_int, fdiv_int, Lr.mod_int, bin_add, bin_sub, bin_mul, bin_fdiv, bin_mod, cmp_eq, cmp_ne, cmp_lt, cmp_le, cmp_gt, cmp_ge, cmp_in, cmp_notin, cmp_isN, cmp_isnotN, Lr.eq_int, Lr.ne_int, Lr.len_lst, Lr.len_tup, tuple_lst, tuple_tup, list_lst, list_tup, int_bl, bi_len, bi_tuple, bi_list, bi_int, bi_join, bi_any, bi_all, idx_lst, idx_tup, Lr.sl_lst, Lr.sl_tup, and_t, and_f, or_f, or_t, not_b, neg_i, cond_t, cond_f, rng1, rng2, list_of, part_i, seq_nx, seq_ret, seq_brk, seq_cont, if_t, if_f, own_some, own_val, own_non, sv_some, sv_none, bind_name, start0, Option.bind_some, Option.bind_none, Option.map_some, Option.map_none, List.map_cons, List.map_nil, List.length_cons, List.length_nil, List.replicate, List.cons_append, List.nil_append, List.getElem?_cons_zero, List.getElem?_cons_succ, List.set_cons_zero, List.set_cons_succ, Nat.reduceAdd, Nat.reduceSub, if_true, if_false, Bool.false_eq_true, reduceIte, decide_true, decide_false, Bool.and_self, Bool.and_true, Bool.true_and, Int.reduceLT, Int.reduceNeg, Nat.reduceLeDiff, hd, decide_eq_false hk, decide_eq_false hk5, drawn_ok G.drawn, hd1, q1, decide_eq_true hk6, tup_d, sz2]
      rfl
    · obtain ⟨t, r1, r2, r3⟩ := h (drawnV n 5 / 4) 2 (by decide)
      have r1 : callAt T g fu (k + 2) "_law_steps" [.int (drawnV n 5 / 4), hsD hs, .int deep, .int 2] = some (.tuple (stsD t)) := r1
      refine ⟨.both s t, call_at G.step rfl ?_, by unfold Stp.ok; exact ⟨by omega, q3, by omega, r3⟩⟩
      simp only [d_law_step, exs, ex, ev, evs, evPart, evIt, sealE, sealIt, rd_val, rd_own, rd_succ, Lr.add_int, Lr.sub_int, fdiv_int, Lr.mod_int, bin_add, bin_sub, bin_mul, bin_fdiv, bin_mod, cmp_eq, cmp_ne, cmp_lt, cmp_le, cmp_gt, cmp_ge, cmp_in, cmp_notin, cmp_isN, cmp_isnotN, Lr.eq_int, Lr.ne_int, Lr.len_lst, Lr.len_tup, tuple_lst, tuple_tup, list_lst, list_tup, int_bl, bi_len, bi_tuple, bi_list, bi_int, bi_join, bi_any, bi_all, idx_lst, idx_tup, Lr.sl_lst, Lr.sl_tup, and_t, and_f, or_f, or_t, not_b, neg_i, cond_t, cond_f, rng1, rng2, list_of, part_i, seq_nx, seq_ret, seq_brk, seq_cont, if_t, if_f, own_some, own_val, own_non, sv_some, sv_none, bind_name, start0, Option.bind_some, Option.bind_none, Option.map_some, Option.map_none, List.map_cons, List.map_nil, List.length_cons, List.length_nil, List.replicate, List.cons_append, List.nil_append, List.getElem?_cons_zero, List.getElem?_cons_succ, List.set_cons_zero, List.set_cons_succ, Nat.reduceAdd, Nat.reduceSub, if_true, if_false, Bool.false_eq_true, reduceIte, decide_true, decide_false, Bool.and_self, Bool.and_true, Bool.true_and, Int.reduceLT, Int.reduceNeg, Nat.reduceLeDiff, hd, decide_eq_false hk, decide_eq_false hk5, drawn_ok G.drawn, hd1, q1, r1, decide_eq_false hk6, tup_d, sz3]
      rfl
theorem step_ok (G : Gen T) {hs : List Str} (h0 : 0 < hs.length) : ∀ (deep k : Nat), StepAt T g fu hs deep (k + 2 * deep + 3)
  | 0, k => fun n => tell_ok G h0 0 k n (.inl rfl)
  | deep + 1, k => step_of_steps G h0 (k := k + 2 * deep + 2) (steps_of_step (k := k + 2 * deep + 2) G (step_ok G h0 deep k))
theorem steps_ok (G : Gen T) {hs : List Str} (h0 : 0 < hs.length) (deep k : Nat) : StepsAt T g fu hs deep (k + 2 * deep + 4) :=
  steps_of_step (k := k + 2 * deep + 2) G (step_ok (g := g) (fu := fu) G h0 deep k)
/-! ### talks -/
theorem name_in {z : Str} {hs : List Str} (hz : NameOk z) (h : ∀ x ∈ hs, NameOk x) : True := trivial
theorem strOk_of {z : Str} (h : NameOk z) : PyData.strOk z = true := by
  unfold PyData.strOk
  rw [Array.all_eq_true']
  intro c hc
  have := h.2.2 c (by simpa using hc)
  simp; omega
theorem eqv_str (x y : Str) : PyData.eqv (.str x) (.str y) = decide (x = y) := by
  unfold PyData.eqv
  rw [Bool.eq_iff_iff]; simp
theorem shaped_str {z : Str} (h : NameOk z) : SeqAt.shaped (.str z) = true := by
  unfold SeqAt.shaped
  rw [Bool.and_eq_true]
  refine ⟨?_, rfl⟩
  unfold PyData.canLay0
  exact strOk_of h
theorem canLay_strs : ∀ {hs : List Str}, (∀ x ∈ hs, NameOk x) → PyData.canLayAll0 (hs.map PyData.str) = true ∧ PyData.depthAll (hs.map PyData.str) = 0
  | [], _ => ⟨rfl, rfl⟩
  | a :: r, h => by
    obtain ⟨h1, h2⟩ := canLay_strs (hs := r) fun x hx => h x (List.mem_cons_of_mem _ hx)
    have ha := strOk_of (h a List.mem_cons_self)
    refine ⟨?_, ?_⟩
    · simp only [List.map_cons, PyData.canLayAll0, PyData.canLay0, ha, h1, Bool.and_self]
    · simp only [List.map_cons, PyData.depthAll, PyData.depth, h2]; rfl
theorem shaped_hs {hs : List Str} (h : ∀ x ∈ hs, NameOk x) : SeqAt.shaped (hsD hs) = true := by
  obtain ⟨h1, h2⟩ := canLay_strs h
  unfold SeqAt.shaped hsD
  simp only [PyData.canLay0, PyData.depth, h1, h2]
  rfl
theorem any_strs (z : Str) : ∀ hs : List Str, ((hs.map PyData.str).any fun y => PyData.eqv y (.str z)) = decide (z ∈ hs)
  | [] => by simp
  | a :: r => by
    rw [List.map_cons, List.any_cons, any_strs z r, eqv_str]
    by_cases e : a = z
    · subst e; simp
    · have : ¬ z = a := fun q => e q.symm
      simp [e, this]
theorem isin_hs {z : Str} {hs : List Str} (hz : NameOk z) (h : ∀ x ∈ hs, NameOk x) : isinEv (.str z) (hsD hs) = some (decide (z ∈ hs)) := by
  have s1 := shaped_str hz
  have s2 := shaped_hs h
  unfold hsD at s2 ⊢
  show (if SeqAt.shaped (.str z) && SeqAt.shaped (.tuple (hs.map PyData.str)) then some ((hs.map PyData.str).any fun y => PyData.eqv y (.str z)) else none) = _
  rw [s1, s2, any_strs]
  rfl
structure HandsOk (hs : List Str) : Prop where
  pos : 0 < hs.length
  few : hs.length ≤ 4
  names : ∀ x ∈ hs, NameOk x
  nd : hs.Nodup
theorem cut1 {α : Type} {x : α} {xs : List α} : cutA (x :: xs) (some 1) none = xs := by
  unfold cutA
  have : HT.sIx (x :: xs).length 0 (some 1) = 1 := by
    have := HT.sIx_nat (x :: xs).length 0 1
    rw [show ((1 : Nat) : Int) = (1 : Int) from rfl] at this
    rw [this]; simp
  rw [this, HT.sIx_none]
  simp
structure GenT (T : Tab) : Prop extends Gen T where
  talk : T "_law_talk" = some d_law_talk
def talkD (hs : List Str) (s : List Stp) : PyData := .tuple [hsD hs, .tuple (stsD s)]
theorem talk_ok (G : GenT T) (deep k most : Nat) (hm : most ≤ 4) (n : Int) : ∃ (hs : List Str) (s : List Stp), callAt T g fu (k + 2 * deep + 5) "_law_talk" [.int n, .int deep, .int most] = some (talkD hs s) ∧ HandsOk hs ∧ s.length ≤ most ∧ stsOk hs deep s := by
  have h4 : 0 ≤ n % 4 ∧ n % 4 < 4 := ⟨Int.emod_nonneg _ (by decide), Int.emod_lt_of_pos _ (by decide)⟩
  obtain ⟨w, hw, hwn⟩ := word_ok (g := g) (fu := fu) G.drawn G.word (k + 2 * deep + 2) (n / 8 * 6)
  have hh : ∃ hs : List Str, atI [PyData.tuple [.str "a"], .tuple [.str "a", .str "bob"], .tuple [.str "c", .str "a", .str "bob"], .tuple [.str "d", .str "bob", .str "a", .str "c"]] (n % 4) = some (hsD hs) ∧ HandsOk hs := by
    have : n % 4 = 0 ∨ n % 4 = 1 ∨ n % 4 = 2 ∨ n % 4 = 3 := by omega
    rcases this with e | e | e | e <;> rw [e]
    · exact ⟨["a"], rfl, ⟨by decide, by decide, by decide, by decide⟩⟩
    · exact ⟨["a", "bob"], rfl, ⟨by decide, by decide, by decide, by decide⟩⟩
    · exact ⟨["c", "a", "bob"], rfl, ⟨by decide, by decide, by decide, by decide⟩⟩
    · exact ⟨["d", "bob", "a", "c"], rfl, ⟨by decide, by decide, by decide, by decide⟩⟩
  obtain ⟨hs, hh, ho⟩ := hh
  have e6 : mulEv (.int (n / 8)) (.int 6) = some (.int (n / 8 * 6)) := mulEv_ok (mulOk_r (by decide) (by decide))
  have hin : notinEv (.str w) (hsD hs) = some (!decide (w ∈ hs)) := by unfold notinEv; rw [isin_hs hwn ho.names]; rfl
  by_cases hc : n / 16 % 3 = 0 ∧ w ∉ hs
  · cases hs with
    | nil => exact absurd ho.pos (by decide)
    | cons x xs =>
      have hx : w ∉ x :: xs := hc.2
      have ho' : HandsOk (w :: xs) := by
        refine ⟨by simp, ho.few, fun y hy => ?_, ?_⟩
        · rcases List.mem_cons.mp hy with rfl | hy
          · exact hwn
          · exact ho.names y (List.mem_cons_of_mem _ hy)
        · rw [List.nodup_cons]
          exact ⟨fun z => hx (List.mem_cons_of_mem _ z), (List.nodup_cons.mp ho.nd).2⟩
      obtain ⟨s, q1, q2, q3⟩ := steps_ok (g := g) (fu := fu) G.toGen ho'.pos deep k (n / 4) most hm
      refine ⟨w :: xs, s, call_at G.talk rfl ?_, ho', q2, q3⟩
      have hsl : sliceEv (some 1) none (hsD (x :: xs)) = some (hsD xs) := by
        show some (PyData.tuple (cutA ((x :: xs).map PyData.str) (some 1) none)) = _
        rw [List.map_cons, cut1]; rfl
      have hadd : addEv (.tuple [.str w]) (hsD xs) = some (hsD (w :: xs)) := by
        have := ho.few
        show (if szOk ([PyData.str w].length + (xs.map PyData.str).length) then _ else _) = _
        rw [sz_ok (by simp at this ⊢; omega)]
        rfl
      simp only [d_law_talk, exs, ex, ev, evs, evPart, evIt, sealE, sealIt, rd_val, rd_own, rd_succ, Lr.add_int, Lr.sub_int, fdiv_int, Lr.mod_int, bin_add, bin_sub, bin_mul, bin_fdiv, bin_mod, cmp_eq, cmp_ne, cmp_lt, cmp_le, cmp_gt, cmp_ge, cmp_in, cmp_notin, cmp_isN, cmp_isnotN, Lr.eq_int, Lr.ne_int, Lr.len_lst, Lr.len_tup, tuple_lst, tuple_tup, list_lst, list_tup, int_bl, bi_len, bi_tuple, bi_list, bi_int, bi_join, bi_any, bi_all, idx_lst, idx_tup, Lr.sl_lst, Lr.sl_tup, and_t, and_f, or_f, or_t, not_b, neg_i, cond_t, cond_f, rng1, rng2, list_of, part_i, seq_nx, seq_ret, seq_brk, seq_cont, if_t, if_f, own_some, own_val, own_non, sv_some, sv_none, bind_name, start0, Option.bind_some, Option.bind_none, Option.map_some, Option.map_none, List.map_cons, List.map_nil, List.length_cons, List.length_nil, List.replicate, List.cons_append, List.nil_append, List.getElem?_cons_zero, List.getElem?_cons_succ, List.set_cons_zero, List.set_cons_succ, Nat.reduceAdd, Nat.reduceSub, if_true, if_false, Bool.false_eq_true, reduceIte, decide_true, decide_false, Bool.and_self, Bool.and_true, Bool.true_and, Int.reduceLT, Int.reduceNeg, Nat.reduceLeDiff, tup_d, sz1, sz2, sz3, sz4, hh, e6, hw, decide_eq_true hc.1, hin, decide_eq_false hx, Bool.not_false, hsl, hadd, q1]
      rfl
  · obtain ⟨s, q1, q2, q3⟩ := steps_ok (g := g) (fu := fu) G.toGen ho.pos deep k (n / 4) most hm
    refine ⟨hs, s, call_at G.talk rfl ?_, ho, q2, q3⟩
    have hcc : andD (.bool (decide (n / 16 % 3 = 0))) (some (.bool (!decide (w ∈ hs)))) = some (.bool false) := by
      by_cases e : n / 16 % 3 = 0
      · have : w ∈ hs := by
          by_cases q : w ∈ hs
          · exact q
          · exact absurd ⟨e, q⟩ hc
        rw [decide_eq_true e, decide_eq_true this]; rfl
      · rw [decide_eq_false e]; rfl
    simp only [d_law_talk, exs, ex, ev, evs, evPart, evIt, sealE, sealIt, rd_val, rd_own, rd_succ, Lr.add_int, Lr.sub_int, fdiv_int, Lr.mod_int, bin_add, bin_sub, bin_mul, bin_fdiv, bin_mod, cmp_eq, cmp_ne, cmp_lt, cmp_le, cmp_gt, cmp_ge, cmp_in, cmp_notin, cmp_isN, cmp_isnotN, Lr.eq_int, Lr.ne_int, Lr.len_lst, Lr.len_tup, tuple_lst, tuple_tup, list_lst, list_tup, int_bl, bi_len, bi_tuple, bi_list, bi_int, bi_join, bi_any, bi_all, idx_lst, idx_tup, Lr.sl_lst, Lr.sl_tup, and_t, and_f, or_f, or_t, not_b, neg_i, cond_t, cond_f, rng1, rng2, list_of, part_i, seq_nx, seq_ret, seq_brk, seq_cont, if_t, if_f, own_some, own_val, own_non, sv_some, sv_none, bind_name, start0, Option.bind_some, Option.bind_none, Option.map_some, Option.map_none, List.map_cons, List.map_nil, List.length_cons, List.length_nil, List.replicate, List.cons_append, List.nil_append, List.getElem?_cons_zero, List.getElem?_cons_succ, List.set_cons_zero, List.set_cons_succ, Nat.reduceAdd, Nat.reduceSub, if_true, if_false, Bool.false_eq_true, reduceIte, decide_true, decide_false, Bool.and_self, Bool.and_true, Bool.true_and, Int.reduceLT, Int.reduceNeg, Nat.reduceLeDiff, tup_d, sz1, sz2, sz3, sz4, hh, e6, hw, hin, hcc, q1]
    rfl
end
end Lr
namespace Lr
open PySem PySem.Spec PyProof.Rows L2
theorem forRun_pre {α : Type} {tg : Tgt} {body : Rho → Option Out} {e : α → PyData} {R : List α → Rho → Prop} : ∀ {post pre : List α} {xs : List α} {ρ : Rho}, xs = pre ++ post → R pre ρ →
    (∀ pre x post ρ, xs = pre ++ x :: post → R pre ρ → ∃ ρ1 ρ', bindT ρ tg (e x) = some ρ1 ∧ body ρ1 = some (.nx ρ') ∧ R (pre ++ [x]) ρ') → ∃ ρ', forRun tg body (post.map e) ρ = some (.nx ρ') ∧ R xs ρ'
  | [], pre, xs, ρ, hx, h, _ => ⟨ρ, rfl, by rw [hx, List.append_nil]; exact h⟩
  | x :: post, pre, xs, ρ, hx, h, hs => by
    obtain ⟨ρ1, ρ2, h1, h2, h3⟩ := hs pre x post ρ hx h
    obtain ⟨ρ3, h4, h5⟩ := forRun_pre (post := post) (pre := pre ++ [x]) (xs := xs) (by rw [hx]; simp) h3 hs
    refine ⟨ρ3, ?_, h5⟩
    rw [List.map_cons]
    unfold forRun
    rw [h1]
    show (body ρ1).bind _ = _
    rw [h2]
    exact h4
theorem at0 {α : Type} {x : α} {r : List α} : atI (x :: r) 0 = some x := atI_nat (j := 0) rfl
theorem at1 {α : Type} {x y : α} {r : List α} : atI (x :: y :: r) 1 = some y := atI_nat (j := 1) rfl
theorem at2 {α : Type} {x y z : α} {r : List α} : atI (x :: y :: z :: r) 2 = some z := atI_nat (j := 2) rfl
theorem at3 {α : Type} {x y z u : α} {r : List α} : atI (x :: y :: z :: u :: r) 3 = some u := atI_nat (j := 3) rfl
theorem cut13 {α : Type} {x y z u : α} : cutA [x, y, z, u] (some 1) (some 3) = [y, z] := rfl
theorem cut01 {α : Type} {x : α} {r : List α} : cutA (x :: r) none (some 1) = [x] := by
  unfold cutA
  have : HT.sIx (x :: r).length (x :: r).length (some 1) = 1 := by
    have := HT.sIx_nat (x :: r).length (x :: r).length 1
    rw [show ((1 : Nat) : Int) = (1 : Int) from rfl] at this
    rw [this]; simp
  rw [this, HT.sIx_none]
  simp
theorem cut02 {α : Type} {x y z : α} : cutA [x, y, z] none (some 2) = [x, y] := rfl
/-! words of the four kinds -/
theorem e_tt : eqEv (.str "tell") (.str "tell") = some true := by decide +kernel
theorem e_ct : eqEv (.str "choice") (.str "tell") = some false := by decide +kernel
theorem e_rt : eqEv (.str "round") (.str "tell") = some false := by decide +kernel
theorem e_bt : eqEv (.str "both") (.str "tell") = some false := by decide +kernel
theorem e_tc : eqEv (.str "tell") (.str "choice") = some false := by decide +kernel
theorem e_cc : eqEv (.str "choice") (.str "choice") = some true := by decide +kernel
theorem e_rc : eqEv (.str "round") (.str "choice") = some false := by decide +kernel
theorem e_bc : eqEv (.str "both") (.str "choice") = some false := by decide +kernel
theorem e_cr : eqEv (.str "choice") (.str "round") = some false := by decide +kernel
theorem e_rr : eqEv (.str "round") (.str "round") = some true := by decide +kernel
theorem e_br : eqEv (.str "both") (.str "round") = some false := by decide +kernel
theorem n_tt : neEv (.str "tell") (.str "tell") = some false := by decide +kernel
theorem n_ct : neEv (.str "choice") (.str "tell") = some true := by decide +kernel
theorem n_rt : neEv (.str "round") (.str "tell") = some true := by decide +kernel
theorem n_bt : neEv (.str "both") (.str "tell") = some true := by decide +kernel
/-! parts -/
def Stp.parts : Stp → List (List Stp)
  | .tell _ _ _ => []
  | .choice bs => bs
  | .round s => [s]
  | .both s t => [s, t]
def Stp.withP : Stp → List (List Stp) → Stp
  | .choice _, bs => .choice bs
  | .round _, [s] => .round s
  | .both _ _, [s, t] => .both s t
  | x, _ => x
def Stp.isTell : Stp → Bool
  | .tell _ _ _ => true
  | _ => false
mutual
def Stp.view (h : Str) : Stp → List Stp
  | .tell a b w => if h = a ∨ h = b then [.tell a b w] else []
  | .choice bs => [.choice (brsView h bs)]
  | .round s => [.round (stsView h s)]
  | .both s t => [.both (stsView h s) (stsView h t)]
def stsView (h : Str) : List Stp → List Stp
  | [] => []
  | s :: r => s.view h ++ stsView h r
def brsView (h : Str) : List (List Stp) → List (List Stp)
  | [] => []
  | s :: r => stsView h s :: brsView h r
end
theorem stsView_app (h : Str) : ∀ s t : List Stp, stsView h (s ++ t) = stsView h s ++ stsView h t
  | [], t => rfl
  | a :: r, t => by rw [List.cons_append, stsView, stsView, stsView_app h r t, List.append_assoc]
theorem brsView_map (h : Str) : ∀ bs : List (List Stp), brsView h bs = bs.map (stsView h)
  | [] => rfl
  | a :: r => by rw [brsView, brsView_map h r]; rfl
theorem view_len (h : Str) (s : Stp) : (s.view h).length ≤ 1 := by
  cases s with
  | tell a b w => unfold Stp.view; split <;> simp
  | _ => unfold Stp.view; simp
theorem stsView_len (h : Str) : ∀ s : List Stp, (stsView h s).length ≤ s.length
  | [] => Nat.le_refl _
  | a :: r => by
    rw [stsView, List.length_append, List.length_cons]
    have := view_len h a
    have := stsView_len h r
    omega
theorem view_parts (h : Str) {s : Stp} (hs : s.isTell = false) : s.view h = [s.withP (s.parts.map (stsView h))] := by
  cases s with
  | tell a b w => cases hs
  | choice bs => unfold Stp.view; rw [brsView_map]; rfl
  | round s => unfold Stp.view; rfl
  | both s t => unfold Stp.view; rfl
theorem stsD_app (s t : List Stp) : stsD (s ++ t) = stsD s ++ stsD t := by rw [stsD_map, stsD_map, stsD_map, List.map_append]
theorem stsD_len (s : List Stp) : (stsD s).length = s.length := by rw [stsD_map, List.length_map]
theorem brsD_len (s : List (List Stp)) : (brsD s).length = s.length := by rw [brsD_map, List.length_map]
section
variable {T : Tab} {g : Str → Option PyData} {fu : Nat}
theorem parts_ok (hT : T "parts_of" = some d_parts_of) (k : Nat) (s : Stp) : callAt T g fu (k + 1) "parts_of" [s.d] = some (.tuple (brsD s.parts)) := by
  refine call_at hT rfl ?_
  cases s with
  | tell a b w => simp only [d_parts_of, Stp.d, exs, ex, ev, evs, evPart, evIt, sealE, sealIt, rd_val, rd_own, rd_succ, Lr.add_int, Lr.sub_int, fdiv_int, Lr.mod_int, bin_add, bin_sub, bin_mul, bin_fdiv, bin_mod, cmp_eq, cmp_ne, cmp_lt, cmp_le, cmp_gt, cmp_ge, cmp_in, cmp_notin, cmp_isN, cmp_isnotN, Lr.eq_int, Lr.ne_int, Lr.len_lst, Lr.len_tup, tuple_lst, tuple_tup, list_lst, list_tup, int_bl, bi_len, bi_tuple, bi_list, bi_int, bi_join, bi_any, bi_all, idx_lst, idx_tup, Lr.sl_lst, Lr.sl_tup, and_t, and_f, or_f, or_t, not_b, neg_i, cond_t, cond_f, rng1, rng2, list_of, part_i, seq_nx, seq_ret, seq_brk, seq_cont, if_t, if_f, own_some, own_val, own_non, sv_some, sv_none, bind_name, start0, Option.bind_some, Option.bind_none, Option.map_some, Option.map_none, List.map_cons, List.map_nil, List.length_cons, List.length_nil, List.replicate, List.cons_append, List.nil_append, List.getElem?_cons_zero, List.getElem?_cons_succ, List.set_cons_zero, List.set_cons_succ, Nat.reduceAdd, Nat.reduceSub, if_true, if_false, Bool.false_eq_true, reduceIte, decide_true, decide_false, Bool.and_self, Bool.and_true, Bool.true_and, Int.reduceLT, Int.reduceNeg, Nat.reduceLeDiff, at0, e_tc, e_tt, tup_d, sz0]; rfl
  | choice bs => simp only [d_parts_of, Stp.d, exs, ex, ev, evs, evPart, evIt, sealE, sealIt, rd_val, rd_own, rd_succ, Lr.add_int, Lr.sub_int, fdiv_int, Lr.mod_int, bin_add, bin_sub, bin_mul, bin_fdiv, bin_mod, cmp_eq, cmp_ne, cmp_lt, cmp_le, cmp_gt, cmp_ge, cmp_in, cmp_notin, cmp_isN, cmp_isnotN, Lr.eq_int, Lr.ne_int, Lr.len_lst, Lr.len_tup, tuple_lst, tuple_tup, list_lst, list_tup, int_bl, bi_len, bi_tuple, bi_list, bi_int, bi_join, bi_any, bi_all, idx_lst, idx_tup, Lr.sl_lst, Lr.sl_tup, and_t, and_f, or_f, or_t, not_b, neg_i, cond_t, cond_f, rng1, rng2, list_of, part_i, seq_nx, seq_ret, seq_brk, seq_cont, if_t, if_f, own_some, own_val, own_non, sv_some, sv_none, bind_name, start0, Option.bind_some, Option.bind_none, Option.map_some, Option.map_none, List.map_cons, List.map_nil, List.length_cons, List.length_nil, List.replicate, List.cons_append, List.nil_append, List.getElem?_cons_zero, List.getElem?_cons_succ, List.set_cons_zero, List.set_cons_succ, Nat.reduceAdd, Nat.reduceSub, if_true, if_false, Bool.false_eq_true, reduceIte, decide_true, decide_false, Bool.and_self, Bool.and_true, Bool.true_and, Int.reduceLT, Int.reduceNeg, Nat.reduceLeDiff, at0, at1, e_cc]; rfl
  | round s => simp only [d_parts_of, Stp.d, exs, ex, ev, evs, evPart, evIt, sealE, sealIt, rd_val, rd_own, rd_succ, Lr.add_int, Lr.sub_int, fdiv_int, Lr.mod_int, bin_add, bin_sub, bin_mul, bin_fdiv, bin_mod, cmp_eq, cmp_ne, cmp_lt, cmp_le, cmp_gt, cmp_ge, cmp_in, cmp_notin, cmp_isN, cmp_isnotN, Lr.eq_int, Lr.ne_int, Lr.len_lst, Lr.len_tup, tuple_lst, tuple_tup, list_lst, list_tup, int_bl, bi_len, bi_tuple, bi_list, bi_int, bi_join, bi_any, bi_all, idx_lst, idx_tup, Lr.sl_lst, Lr.sl_tup, and_t, and_f, or_f, or_t, not_b, neg_i, cond_t, cond_f, rng1, rng2, list_of, part_i, seq_nx, seq_ret, seq_brk, seq_cont, if_t, if_f, own_some, own_val, own_non, sv_some, sv_none, bind_name, start0, Option.bind_some, Option.bind_none, Option.map_some, Option.map_none, List.map_cons, List.map_nil, List.length_cons, List.length_nil, List.replicate, List.cons_append, List.nil_append, List.getElem?_cons_zero, List.getElem?_cons_succ, List.set_cons_zero, List.set_cons_succ, Nat.reduceAdd, Nat.reduceSub, if_true, if_false, Bool.false_eq_true, reduceIte, decide_true, decide_false, Bool.and_self, Bool.and_true, Bool.true_and, Int.reduceLT, Int.reduceNeg, Nat.reduceLeDiff, at0, e_rc, e_rt, cut1]; rfl
  | both s t => simp only [d_parts_of, Stp.d, exs, ex, ev, evs, evPart, evIt, sealE, sealIt, rd_val, rd_own, rd_succ, Lr.add_int, Lr.sub_int, fdiv_int, Lr.mod_int, bin_add, bin_sub, bin_mul, bin_fdiv, bin_mod, cmp_eq, cmp_ne, cmp_lt, cmp_le, cmp_gt, cmp_ge, cmp_in, cmp_notin, cmp_isN, cmp_isnotN, Lr.eq_int, Lr.ne_int, Lr.len_lst, Lr.len_tup, tuple_lst, tuple_tup, list_lst, list_tup, int_bl, bi_len, bi_tuple, bi_list, bi_int, bi_join, bi_any, bi_all, idx_lst, idx_tup, Lr.sl_lst, Lr.sl_tup, and_t, and_f, or_f, or_t, not_b, neg_i, cond_t, cond_f, rng1, rng2, list_of, part_i, seq_nx, seq_ret, seq_brk, seq_cont, if_t, if_f, own_some, own_val, own_non, sv_some, sv_none, bind_name, start0, Option.bind_some, Option.bind_none, Option.map_some, Option.map_none, List.map_cons, List.map_nil, List.length_cons, List.length_nil, List.replicate, List.cons_append, List.nil_append, List.getElem?_cons_zero, List.getElem?_cons_succ, List.set_cons_zero, List.set_cons_succ, Nat.reduceAdd, Nat.reduceSub, if_true, if_false, Bool.false_eq_true, reduceIte, decide_true, decide_false, Bool.and_self, Bool.and_true, Bool.true_and, Int.reduceLT, Int.reduceNeg, Nat.reduceLeDiff, at0, e_bc, e_bt, cut1]; rfl
theorem withP_ok (hT : T "with_parts" = some d_with_parts) (k : Nat) (s : Stp) (bs : List (List Stp)) (h1 : s.isTell = false) (h2 : bs.length = s.parts.length) (h3 : bs.length ≤ 100) : callAt T g fu (k + 1) "with_parts" [s.d, .list (brsD bs)] = some (s.withP bs).d := by
  refine call_at hT rfl ?_
  cases s with
  | tell a b w => cases h1
  | choice cs => simp only [d_with_parts, Stp.d, Stp.withP, exs, ex, ev, evs, evPart, evIt, sealE, sealIt, rd_val, rd_own, rd_succ, Lr.add_int, Lr.sub_int, fdiv_int, Lr.mod_int, bin_add, bin_sub, bin_mul, bin_fdiv, bin_mod, cmp_eq, cmp_ne, cmp_lt, cmp_le, cmp_gt, cmp_ge, cmp_in, cmp_notin, cmp_isN, cmp_isnotN, Lr.eq_int, Lr.ne_int, Lr.len_lst, Lr.len_tup, tuple_lst, tuple_tup, list_lst, list_tup, int_bl, bi_len, bi_tuple, bi_list, bi_int, bi_join, bi_any, bi_all, idx_lst, idx_tup, Lr.sl_lst, Lr.sl_tup, and_t, and_f, or_f, or_t, not_b, neg_i, cond_t, cond_f, rng1, rng2, list_of, part_i, seq_nx, seq_ret, seq_brk, seq_cont, if_t, if_f, own_some, own_val, own_non, sv_some, sv_none, bind_name, start0, Option.bind_some, Option.bind_none, Option.map_some, Option.map_none, List.map_cons, List.map_nil, List.length_cons, List.length_nil, List.replicate, List.cons_append, List.nil_append, List.getElem?_cons_zero, List.getElem?_cons_succ, List.set_cons_zero, List.set_cons_succ, Nat.reduceAdd, Nat.reduceSub, if_true, if_false, Bool.false_eq_true, reduceIte, decide_true, decide_false, Bool.and_self, Bool.and_true, Bool.true_and, Int.reduceLT, Int.reduceNeg, Nat.reduceLeDiff, at0, e_cc, tup_d, sz2]
  | round s =>
    match bs, h2 with
    | [t], _ =>
      simp only [d_with_parts, Stp.d, Stp.withP, brsD, exs, ex, ev, evs, evPart, evIt, sealE, sealIt, rd_val, rd_own, rd_succ, Lr.add_int, Lr.sub_int, fdiv_int, Lr.mod_int, bin_add, bin_sub, bin_mul, bin_fdiv, bin_mod, cmp_eq, cmp_ne, cmp_lt, cmp_le, cmp_gt, cmp_ge, cmp_in, cmp_notin, cmp_isN, cmp_isnotN, Lr.eq_int, Lr.ne_int, Lr.len_lst, Lr.len_tup, tuple_lst, tuple_tup, list_lst, list_tup, int_bl, bi_len, bi_tuple, bi_list, bi_int, bi_join, bi_any, bi_all, idx_lst, idx_tup, Lr.sl_lst, Lr.sl_tup, and_t, and_f, or_f, or_t, not_b, neg_i, cond_t, cond_f, rng1, rng2, list_of, part_i, seq_nx, seq_ret, seq_brk, seq_cont, if_t, if_f, own_some, own_val, own_non, sv_some, sv_none, bind_name, start0, Option.bind_some, Option.bind_none, Option.map_some, Option.map_none, List.map_cons, List.map_nil, List.length_cons, List.length_nil, List.replicate, List.cons_append, List.nil_append, List.getElem?_cons_zero, List.getElem?_cons_succ, List.set_cons_zero, List.set_cons_succ, Nat.reduceAdd, Nat.reduceSub, if_true, if_false, Bool.false_eq_true, reduceIte, decide_true, decide_false, Bool.and_self, Bool.and_true, Bool.true_and, Int.reduceLT, Int.reduceNeg, Nat.reduceLeDiff, at0, e_rc, cut01, Lr.add_tup, sz2]
  | both s t =>
    match bs, h2 with
    | [u, v], _ =>
      simp only [d_with_parts, Stp.d, Stp.withP, brsD, exs, ex, ev, evs, evPart, evIt, sealE, sealIt, rd_val, rd_own, rd_succ, Lr.add_int, Lr.sub_int, fdiv_int, Lr.mod_int, bin_add, bin_sub, bin_mul, bin_fdiv, bin_mod, cmp_eq, cmp_ne, cmp_lt, cmp_le, cmp_gt, cmp_ge, cmp_in, cmp_notin, cmp_isN, cmp_isnotN, Lr.eq_int, Lr.ne_int, Lr.len_lst, Lr.len_tup, tuple_lst, tuple_tup, list_lst, list_tup, int_bl, bi_len, bi_tuple, bi_list, bi_int, bi_join, bi_any, bi_all, idx_lst, idx_tup, Lr.sl_lst, Lr.sl_tup, and_t, and_f, or_f, or_t, not_b, neg_i, cond_t, cond_f, rng1, rng2, list_of, part_i, seq_nx, seq_ret, seq_brk, seq_cont, if_t, if_f, own_some, own_val, own_non, sv_some, sv_none, bind_name, start0, Option.bind_some, Option.bind_none, Option.map_some, Option.map_none, List.map_cons, List.map_nil, List.length_cons, List.length_nil, List.replicate, List.cons_append, List.nil_append, List.getElem?_cons_zero, List.getElem?_cons_succ, List.set_cons_zero, List.set_cons_succ, Nat.reduceAdd, Nat.reduceSub, if_true, if_false, Bool.false_eq_true, reduceIte, decide_true, decide_false, Bool.and_self, Bool.and_true, Bool.true_and, Int.reduceLT, Int.reduceNeg, Nat.reduceLeDiff, at0, e_bc, cut01, Lr.add_tup, sz3]
theorem ok_parts {hs : List Str} {n : Nat} {s : Stp} (h : s.ok hs (n + 1)) : ∀ p ∈ s.parts, p.length ≤ 4 ∧ stsOk hs n p := by
  cases s with
  | tell a b w => intro p hp; cases hp
  | choice bs =>
    unfold Stp.ok at h
    exact brsOk_all.mp h.2.2
  | round s =>
    unfold Stp.ok at h
    intro p hp
    simp [Stp.parts] at hp
    subst hp
    exact h
  | both s t =>
    unfold Stp.ok at h
    intro p hp
    simp [Stp.parts] at hp
    rcases hp with rfl | rfl
    · exact ⟨h.1, h.2.1⟩
    · exact ⟨h.2.2.1, h.2.2.2⟩
theorem ok_nparts {hs : List Str} {n : Nat} {s : Stp} (h : s.ok hs n) : s.parts.length ≤ 3 := by
  cases s with
  | tell a b w => simp [Stp.parts]
  | choice bs =>
    cases n with
    | zero => unfold Stp.ok at h; exact h.elim
    | succ n => unfold Stp.ok at h; exact h.2.1
  | round s => simp [Stp.parts]
  | both s t => simp [Stp.parts]
theorem ok_zero {hs : List Str} {s : Stp} (h : s.ok hs 0) : s.isTell = true := by
  cases s with
  | tell a b w => rfl
  | _ => unfold Stp.ok at h; exact h.elim
theorem ok_tell {hs : List Str} {n : Nat} {a b w : Str} (h : (Stp.tell a b w).ok hs n) : a ∈ hs ∧ b ∈ hs ∧ NameOk w := by
  cases n <;> (unfold Stp.ok at h; exact h)
structure See (T : Tab) : Prop where
  parts : T "parts_of" = some d_parts_of
  withp : T "with_parts" = some d_with_parts
  sseen : T "steps_seen" = some d_steps_seen
  view : T "view" = some d_view
theorem steps_seen_ok (G : See T) {hs : List Str} {h : Str} (hh : NameOk h) (hn : ∀ x ∈ hs, NameOk x) : ∀ (n k : Nat) (s : List Stp), s.length ≤ 100 → stsOk hs n s → callAt T g fu (k + n + 2) "steps_seen" [.tuple (stsD s), .str h] = some (.tuple (stsD (stsView h s)))
  | n, k, s, hl, hs' => by
    obtain ⟨ρ', hf, hR⟩ := forRun_pre (tg := .name 4) (e := Stp.d) (post := s) (pre := []) (xs := s) (ρ := [.val (.tuple (stsD s)), .val (.str h), .own [], .none, .none])
      (body := fun ρ' => exs ⟨callAt T g fu (k + n + 1), fu, g⟩ ρ' (.cons (.ife (.cmp .ne (.idx (.var 4) (.lit (.int 0))) (.lit (.str "tell"))) (.cons (.append 2 (.call "with_parts" (.cons (.var 4) (.cons (.lc (.call "steps_seen" (.cons (.var 3) (.cons (.var 1) .nil))) (.name 3) (.seq (.call "parts_of" (.cons (.var 4) .nil))) (.lit (.bool true))) .nil)))) .nil) (.cons (.ife (.cmp .isin (.var 1) (.slice (.var 4) (.som (.lit (.int 1))) (.som (.lit (.int 3))))) (.cons (.append 2 (.var 4)) .nil) (.nil)) .nil)) .nil))
      (R := fun pre ρ => ∃ p x, ρ = [.val (.tuple (stsD s)), .val (.str h), .own (stsD (stsView h pre)), p, x]) rfl ⟨.none, .none, rfl⟩ (fun pre x post ρ hx ⟨p, y, hρ⟩ => by
        subst hρ
        have hpl : (stsView h pre).length ≤ 100 := by
          have := stsView_len h pre
          have : s.length = pre.length + (post.length + 1) := by rw [hx]; simp
          omega
        have hxo : x.ok hs n := stsOk_all.mp hs' x (by rw [hx]; simp)
        have hsz : szOk ((stsD (stsView h pre)).length + 1) = true := by rw [stsD_len]; exact sz_ok (by omega)
        refine ⟨_, _, rfl, ?_, p, .val x.d, rfl⟩
        rw [stsView_app, stsD_app]
        cases hxt : x.isTell with
        | true =>
          cases x with
          | tell a b w =>
            obtain ⟨ha, hb, _⟩ := ok_tell hxo
            have hin : isinEv (.str h) (.tuple [.str a, .str b]) = some (decide (h ∈ [a, b])) := isin_hs (hs := [a, b]) hh (by intro x hx; simp at hx; rcases hx with rfl | rfl; exact hn _ ha; exact hn _ hb)
            have ev1 : stsView h [.tell a b w] = if h = a ∨ h = b then [.tell a b w] else [] := by simp [stsView, Stp.view]
            rw [ev1]
            by_cases e : h = a ∨ h = b
            · have e' : h ∈ [a, b] := by simpa using e
              rw [if_pos e]
              simp only [Stp.d, exs, ex, ev, evs, evPart, evIt, sealE, sealIt, rd_val, rd_own, rd_succ, Lr.add_int, Lr.sub_int, fdiv_int, Lr.mod_int, bin_add, bin_sub, bin_mul, bin_fdiv, bin_mod, cmp_eq, cmp_ne, cmp_lt, cmp_le, cmp_gt, cmp_ge, cmp_in, cmp_notin, cmp_isN, cmp_isnotN, Lr.eq_int, Lr.ne_int, Lr.len_lst, Lr.len_tup, tuple_lst, tuple_tup, list_lst, list_tup, int_bl, bi_len, bi_tuple, bi_list, bi_int, bi_join, bi_any, bi_all, idx_lst, idx_tup, Lr.sl_lst, Lr.sl_tup, and_t, and_f, or_f, or_t, not_b, neg_i, cond_t, cond_f, rng1, rng2, list_of, part_i, seq_nx, seq_ret, seq_brk, seq_cont, if_t, if_f, own_some, own_val, own_non, sv_some, sv_none, bind_name, start0, Option.bind_some, Option.bind_none, Option.map_some, Option.map_none, List.map_cons, List.map_nil, List.length_cons, List.length_nil, List.replicate, List.cons_append, List.nil_append, List.getElem?_cons_zero, List.getElem?_cons_succ, List.set_cons_zero, List.set_cons_succ, Nat.reduceAdd, Nat.reduceSub, if_true, if_false, Bool.false_eq_true, reduceIte, decide_true, decide_false, Bool.and_self, Bool.and_true, Bool.true_and, Int.reduceLT, Int.reduceNeg, Nat.reduceLeDiff, at0, n_tt, cut13, hin, decide_eq_true e', hsz]
              rfl
            · have e' : h ∉ [a, b] := by simpa using e
              rw [if_neg e]
              simp only [Stp.d, exs, ex, ev, evs, evPart, evIt, sealE, sealIt, rd_val, rd_own, rd_succ, Lr.add_int, Lr.sub_int, fdiv_int, Lr.mod_int, bin_add, bin_sub, bin_mul, bin_fdiv, bin_mod, cmp_eq, cmp_ne, cmp_lt, cmp_le, cmp_gt, cmp_ge, cmp_in, cmp_notin, cmp_isN, cmp_isnotN, Lr.eq_int, Lr.ne_int, Lr.len_lst, Lr.len_tup, tuple_lst, tuple_tup, list_lst, list_tup, int_bl, bi_len, bi_tuple, bi_list, bi_int, bi_join, bi_any, bi_all, idx_lst, idx_tup, Lr.sl_lst, Lr.sl_tup, and_t, and_f, or_f, or_t, not_b, neg_i, cond_t, cond_f, rng1, rng2, list_of, part_i, seq_nx, seq_ret, seq_brk, seq_cont, if_t, if_f, own_some, own_val, own_non, sv_some, sv_none, bind_name, start0, Option.bind_some, Option.bind_none, Option.map_some, Option.map_none, List.map_cons, List.map_nil, List.length_cons, List.length_nil, List.replicate, List.cons_append, List.nil_append, List.getElem?_cons_zero, List.getElem?_cons_succ, List.set_cons_zero, List.set_cons_succ, Nat.reduceAdd, Nat.reduceSub, if_true, if_false, Bool.false_eq_true, reduceIte, decide_true, decide_false, Bool.and_self, Bool.and_true, Bool.true_and, Int.reduceLT, Int.reduceNeg, Nat.reduceLeDiff, at0, n_tt, cut13, hin, decide_eq_false e', stsD, List.append_nil]
          | _ => cases hxt
        | false =>
          cases n with
          | zero => rw [ok_zero hxo] at hxt; cases hxt
          | succ n =>
            have hp := ok_parts hxo
            have hnp := ok_nparts hxo
            have hlc : lcRun (fun d => (bindT [.val (.tuple (stsD s)), .val (.str h), .own (stsD (stsView h pre)), p, .val x.d] (.name 3) d).bind fun ρ' => (ev true ⟨callAt T g fu (k + (n + 1) + 1), fu, g⟩ ρ' (.lit (.bool true))).bind fun b => condD b (ev false ⟨callAt T g fu (k + (n + 1) + 1), fu, g⟩ ρ' (.call "steps_seen" (.cons (.var 3) (.cons (.var 1) .nil))))) (x.parts.map fun t => PyData.tuple (stsD t)) = some (x.parts.map fun t => PyData.tuple (stsD (stsView h t))) :=
              lcRun_map fun t ht => by
                have := steps_seen_ok G hh hn n k t (by have := (hp t ht).1; omega) (hp t ht).2
                have this : callAt T g fu (k + (n + 1) + 1) "steps_seen" [.tuple (stsD t), .str h] = some (.tuple (stsD (stsView h t))) := this
                simp only [exs, ex, ev, evs, evPart, evIt, sealE, sealIt, rd_val, rd_own, rd_succ, Lr.add_int, Lr.sub_int, fdiv_int, Lr.mod_int, bin_add, bin_sub, bin_mul, bin_fdiv, bin_mod, cmp_eq, cmp_ne, cmp_lt, cmp_le, cmp_gt, cmp_ge, cmp_in, cmp_notin, cmp_isN, cmp_isnotN, Lr.eq_int, Lr.ne_int, Lr.len_lst, Lr.len_tup, tuple_lst, tuple_tup, list_lst, list_tup, int_bl, bi_len, bi_tuple, bi_list, bi_int, bi_join, bi_any, bi_all, idx_lst, idx_tup, Lr.sl_lst, Lr.sl_tup, and_t, and_f, or_f, or_t, not_b, neg_i, cond_t, cond_f, rng1, rng2, list_of, part_i, seq_nx, seq_ret, seq_brk, seq_cont, if_t, if_f, own_some, own_val, own_non, sv_some, sv_none, bind_name, start0, Option.bind_some, Option.bind_none, Option.map_some, Option.map_none, List.map_cons, List.map_nil, List.length_cons, List.length_nil, List.replicate, List.cons_append, List.nil_append, List.getElem?_cons_zero, List.getElem?_cons_succ, List.set_cons_zero, List.set_cons_succ, Nat.reduceAdd, Nat.reduceSub, if_true, if_false, Bool.false_eq_true, reduceIte, decide_true, decide_false, Bool.and_self, Bool.and_true, Bool.true_and, Int.reduceLT, Int.reduceNeg, Nat.reduceLeDiff, this]
            have hw := withP_ok (g := g) (fu := fu) G.withp (k + (n + 1)) x (x.parts.map (stsView h)) hxt (by simp) (by simp; omega)
            have e1 : brsD (x.parts.map (stsView h)) = x.parts.map fun t => PyData.tuple (stsD (stsView h t)) := by rw [brsD_map, List.map_map]; rfl
            rw [e1] at hw
            have hps := parts_ok (g := g) (fu := fu) G.parts (k + (n + 1)) x
            rw [brsD_map] at hps
            have hn0 : ∀ y, atI (match x.d with | .tuple l => l | _ => []) 0 = some y → neEv y (.str "tell") = some true := by
              intro y hy
              cases x with
              | tell a b w => cases hxt
              | choice bs => cases hy; exact n_ct
              | round s => cases hy; exact n_rt
              | both s t => cases hy; exact n_bt
            have hidx : ∃ y, idxEv x.d (.int 0) = some y ∧ neEv y (.str "tell") = some true := by
              cases x with
              | tell a b w => cases hxt
              | choice bs => exact ⟨_, rfl, n_ct⟩
              | round s => exact ⟨_, rfl, n_rt⟩
              | both s t => exact ⟨_, rfl, n_bt⟩
            obtain ⟨y, hy1, hy2⟩ := hidx
            have ev1 : stsView h [x] = [x.withP (x.parts.map (stsView h))] := by
              show x.view h ++ stsView h [] = _
              rw [view_parts h hxt]; rfl
            rw [ev1]
            simp only [exs, ex, ev, evs, evPart, evIt, sealE, sealIt, rd_val, rd_own, rd_succ, Lr.add_int, Lr.sub_int, fdiv_int, Lr.mod_int, bin_add, bin_sub, bin_mul, bin_fdiv, bin_mod, cmp_eq, cmp_ne, cmp_lt, cmp_le, cmp_gt, cmp_ge, cmp_in, cmp_notin, cmp_isN, cmp_isnotN, Lr.eq_int, Lr.ne_int, Lr.len_lst, Lr.len_tup, tuple_lst, tuple_tup, list_lst, list_tup, int_bl, bi_len, bi_tuple, bi_list, bi_int, bi_join, bi_any, bi_all, idx_lst, idx_tup, Lr.sl_lst, Lr.sl_tup, and_t, and_f, or_f, or_t, not_b, neg_i, cond_t, cond_f, rng1, rng2, list_of, part_i, seq_nx, seq_ret, seq_brk, seq_cont, if_t, if_f, own_some, own_val, own_non, sv_some, sv_none, bind_name, start0, Option.bind_some, Option.bind_none, Option.map_some, Option.map_none, List.map_cons, List.map_nil, List.length_cons, List.length_nil, List.replicate, List.cons_append, List.nil_append, List.getElem?_cons_zero, List.getElem?_cons_succ, List.set_cons_zero, List.set_cons_succ, Nat.reduceAdd, Nat.reduceSub, if_true, if_false, Bool.false_eq_true, reduceIte, decide_true, decide_false, Bool.and_self, Bool.and_true, Bool.true_and, Int.reduceLT, Int.reduceNeg, Nat.reduceLeDiff] at hlc
            have hszp : szOk (x.parts.map fun t => PyData.tuple (stsD t)).length = true := by rw [List.length_map]; exact sz_ok (by omega)
            simp only [exs, ex, ev, evs, evPart, evIt, sealE, sealIt, rd_val, rd_own, rd_succ, Lr.add_int, Lr.sub_int, fdiv_int, Lr.mod_int, bin_add, bin_sub, bin_mul, bin_fdiv, bin_mod, cmp_eq, cmp_ne, cmp_lt, cmp_le, cmp_gt, cmp_ge, cmp_in, cmp_notin, cmp_isN, cmp_isnotN, Lr.eq_int, Lr.ne_int, Lr.len_lst, Lr.len_tup, tuple_lst, tuple_tup, list_lst, list_tup, int_bl, bi_len, bi_tuple, bi_list, bi_int, bi_join, bi_any, bi_all, idx_lst, idx_tup, Lr.sl_lst, Lr.sl_tup, and_t, and_f, or_f, or_t, not_b, neg_i, cond_t, cond_f, rng1, rng2, list_of, part_i, seq_nx, seq_ret, seq_brk, seq_cont, if_t, if_f, own_some, own_val, own_non, sv_some, sv_none, bind_name, start0, Option.bind_some, Option.bind_none, Option.map_some, Option.map_none, List.map_cons, List.map_nil, List.length_cons, List.length_nil, List.replicate, List.cons_append, List.nil_append, List.getElem?_cons_zero, List.getElem?_cons_succ, List.set_cons_zero, List.set_cons_succ, Nat.reduceAdd, Nat.reduceSub, if_true, if_false, Bool.false_eq_true, reduceIte, decide_true, decide_false, Bool.and_self, Bool.and_true, Bool.true_and, Int.reduceLT, Int.reduceNeg, Nat.reduceLeDiff, hy1, hy2, hps, seqI_tup, hszp, hlc, hw, hsz]
            rfl)
    obtain ⟨p, x, rfl⟩ := hR
    refine call_at G.sseen rfl ?_
    have hsz : szOk (stsD s).length = true := by rw [stsD_len]; exact sz_ok (by omega)
    rw [← stsD_map] at hf
    simp only [d_steps_seen, exs, ex, ev, evs, evPart, evIt, sealE, sealIt, rd_val, rd_own, rd_succ, Lr.add_int, Lr.sub_int, fdiv_int, Lr.mod_int, bin_add, bin_sub, bin_mul, bin_fdiv, bin_mod, cmp_eq, cmp_ne, cmp_lt, cmp_le, cmp_gt, cmp_ge, cmp_in, cmp_notin, cmp_isN, cmp_isnotN, Lr.eq_int, Lr.ne_int, Lr.len_lst, Lr.len_tup, tuple_lst, tuple_tup, list_lst, list_tup, int_bl, bi_len, bi_tuple, bi_list, bi_int, bi_join, bi_any, bi_all, idx_lst, idx_tup, Lr.sl_lst, Lr.sl_tup, and_t, and_f, or_f, or_t, not_b, neg_i, cond_t, cond_f, rng1, rng2, list_of, part_i, seq_nx, seq_ret, seq_brk, seq_cont, if_t, if_f, own_some, own_val, own_non, sv_some, sv_none, bind_name, start0, Option.bind_some, Option.bind_none, Option.map_some, Option.map_none, List.map_cons, List.map_nil, List.length_cons, List.length_nil, List.replicate, List.cons_append, List.nil_append, List.getElem?_cons_zero, List.getElem?_cons_succ, List.set_cons_zero, List.set_cons_succ, Nat.reduceAdd, Nat.reduceSub, if_true, if_false, Bool.false_eq_true, reduceIte, decide_true, decide_false, Bool.and_self, Bool.and_true, Bool.true_and, Int.reduceLT, Int.reduceNeg, Nat.reduceLeDiff, lst_d, sz0, seqI_tup, hsz]
    simp only [exs, ex, ev, evs, evPart, evIt, sealE, sealIt, rd_val, rd_own, rd_succ, Lr.add_int, Lr.sub_int, fdiv_int, Lr.mod_int, bin_add, bin_sub, bin_mul, bin_fdiv, bin_mod, cmp_eq, cmp_ne, cmp_lt, cmp_le, cmp_gt, cmp_ge, cmp_in, cmp_notin, cmp_isN, cmp_isnotN, Lr.eq_int, Lr.ne_int, Lr.len_lst, Lr.len_tup, tuple_lst, tuple_tup, list_lst, list_tup, int_bl, bi_len, bi_tuple, bi_list, bi_int, bi_join, bi_any, bi_all, idx_lst, idx_tup, Lr.sl_lst, Lr.sl_tup, and_t, and_f, or_f, or_t, not_b, neg_i, cond_t, cond_f, rng1, rng2, list_of, part_i, seq_nx, seq_ret, seq_brk, seq_cont, if_t, if_f, own_some, own_val, own_non, sv_some, sv_none, bind_name, start0, Option.bind_some, Option.bind_none, Option.map_some, Option.map_none, List.map_cons, List.map_nil, List.length_cons, List.length_nil, List.replicate, List.cons_append, List.nil_append, List.getElem?_cons_zero, List.getElem?_cons_succ, List.set_cons_zero, List.set_cons_succ, Nat.reduceAdd, Nat.reduceSub, if_true, if_false, Bool.false_eq_true, reduceIte, decide_true, decide_false, Bool.and_self, Bool.and_true, Bool.true_and, Int.reduceLT, Int.reduceNeg, Nat.reduceLeDiff] at hf
    rw [hf]
    simp only [exs, ex, ev, evs, evPart, evIt, sealE, sealIt, rd_val, rd_own, rd_succ, Lr.add_int, Lr.sub_int, fdiv_int, Lr.mod_int, bin_add, bin_sub, bin_mul, bin_fdiv, bin_mod, cmp_eq, cmp_ne, cmp_lt, cmp_le, cmp_gt, cmp_ge, cmp_in, cmp_notin, cmp_isN, cmp_isnotN, Lr.eq_int, Lr.ne_int, Lr.len_lst, Lr.len_tup, tuple_lst, tuple_tup, list_lst, list_tup, int_bl, bi_len, bi_tuple, bi_list, bi_int, bi_join, bi_any, bi_all, idx_lst, idx_tup, Lr.sl_lst, Lr.sl_tup, and_t, and_f, or_f, or_t, not_b, neg_i, cond_t, cond_f, rng1, rng2, list_of, part_i, seq_nx, seq_ret, seq_brk, seq_cont, if_t, if_f, own_some, own_val, own_non, sv_some, sv_none, bind_name, start0, Option.bind_some, Option.bind_none, Option.map_some, Option.map_none, List.map_cons, List.map_nil, List.length_cons, List.length_nil, List.replicate, List.cons_append, List.nil_append, List.getElem?_cons_zero, List.getElem?_cons_succ, List.set_cons_zero, List.set_cons_succ, Nat.reduceAdd, Nat.reduceSub, if_true, if_false, Bool.false_eq_true, reduceIte, decide_true, decide_false, Bool.and_self, Bool.and_true, Bool.true_and, Int.reduceLT, Int.reduceNeg, Nat.reduceLeDiff]
theorem view_ok (G : See T) {hs : List Str} {h : Str} (hh : NameOk h) (hn : ∀ x ∈ hs, NameOk x) (n k : Nat) (s : List Stp) (hl : s.length ≤ 100) (hs' : stsOk hs n s) : callAt T g fu (k + n + 3) "view" [talkD hs s, .str h] = some (talkD hs (stsView h s)) := by
  refine call_at G.view rfl ?_
  have := steps_seen_ok (g := g) (fu := fu) G hh hn n k s hl hs'
  simp only [d_view, talkD, exs, ex, ev, evs, evPart, evIt, sealE, sealIt, rd_val, rd_own, rd_succ, Lr.add_int, Lr.sub_int, fdiv_int, Lr.mod_int, bin_add, bin_sub, bin_mul, bin_fdiv, bin_mod, cmp_eq, cmp_ne, cmp_lt, cmp_le, cmp_gt, cmp_ge, cmp_in, cmp_notin, cmp_isN, cmp_isnotN, Lr.eq_int, Lr.ne_int, Lr.len_lst, Lr.len_tup, tuple_lst, tuple_tup, list_lst, list_tup, int_bl, bi_len, bi_tuple, bi_list, bi_int, bi_join, bi_any, bi_all, idx_lst, idx_tup, Lr.sl_lst, Lr.sl_tup, and_t, and_f, or_f, or_t, not_b, neg_i, cond_t, cond_f, rng1, rng2, list_of, part_i, seq_nx, seq_ret, seq_brk, seq_cont, if_t, if_f, own_some, own_val, own_non, sv_some, sv_none, bind_name, start0, Option.bind_some, Option.bind_none, Option.map_some, Option.map_none, List.map_cons, List.map_nil, List.length_cons, List.length_nil, List.replicate, List.cons_append, List.nil_append, List.getElem?_cons_zero, List.getElem?_cons_succ, List.set_cons_zero, List.set_cons_succ, Nat.reduceAdd, Nat.reduceSub, if_true, if_false, Bool.false_eq_true, reduceIte, decide_true, decide_false, Bool.and_self, Bool.and_true, Bool.true_and, Int.reduceLT, Int.reduceNeg, Nat.reduceLeDiff, at0, at1, this, tup_d, sz2]
end
end Lr
namespace Lr
open PySem PySem.Spec PyProof.Rows L2
/-! ### letters -/
structure Letter where
  a : Str
  b : Str
  w : Str
def Letter.d (l : Letter) : PyData := .tuple [.str l.a, .str l.b, .str l.w]
mutual
def Stp.lets : Stp → List Letter
  | .tell a b w => [⟨a, b, w⟩]
  | .choice bs => brsLets bs
  | .round s => stsLets s
  | .both s t => stsLets s ++ stsLets t
def stsLets : List Stp → List Letter
  | [] => []
  | s :: r => s.lets ++ stsLets r
def brsLets : List (List Stp) → List Letter
  | [] => []
  | s :: r => stsLets s ++ brsLets r
end
theorem stsLets_app : ∀ s t : List Stp, stsLets (s ++ t) = stsLets s ++ stsLets t
  | [], t => rfl
  | a :: r, t => by rw [List.cons_append, stsLets, stsLets, stsLets_app r t, List.append_assoc]
theorem brsLets_app : ∀ s t : List (List Stp), brsLets (s ++ t) = brsLets s ++ brsLets t
  | [], t => rfl
  | a :: r, t => by rw [List.cons_append, brsLets, brsLets, brsLets_app r t, List.append_assoc]
theorem lets_parts {s : Stp} (h : s.isTell = false) : s.lets = brsLets s.parts := by
  cases s with
  | tell a b w => cases h
  | choice bs => rfl
  | round s => unfold Stp.lets; simp [Stp.parts, brsLets]
  | both s t => unfold Stp.lets; simp [Stp.parts, brsLets]
def LetOk (hs : List Str) (l : Letter) : Prop := l.a ∈ hs ∧ l.b ∈ hs ∧ NameOk l.w
theorem sum_le {hs : List Str} {n : Nat} (ih : ∀ s : List Stp, s.length ≤ 4 → stsOk hs n s → (stsLets s).length ≤ 4 * 12 ^ n ∧ ∀ l ∈ stsLets s, LetOk hs l) : ∀ bs : List (List Stp), (∀ p ∈ bs, p.length ≤ 4 ∧ stsOk hs n p) → (brsLets bs).length ≤ bs.length * (4 * 12 ^ n) ∧ ∀ l ∈ brsLets bs, LetOk hs l
  | [], _ => by simp [brsLets]
  | p :: r, h => by
    obtain ⟨h1, h2⟩ := ih p (h p List.mem_cons_self).1 (h p List.mem_cons_self).2
    obtain ⟨h3, h4⟩ := sum_le ih r fun q hq => h q (List.mem_cons_of_mem _ hq)
    rw [brsLets, List.length_append, List.length_cons, Nat.add_mul, Nat.one_mul]
    refine ⟨by omega, fun l hl => ?_⟩
    rcases List.mem_append.mp hl with z | z
    · exact h2 l z
    · exact h4 l z
theorem lets_step {hs : List Str} : ∀ {n : Nat}, (∀ (m : Nat), m < n → ∀ s : List Stp, s.length ≤ 4 → stsOk hs m s → (stsLets s).length ≤ 4 * 12 ^ m ∧ ∀ l ∈ stsLets s, LetOk hs l) → ∀ x : Stp, x.ok hs n → x.lets.length ≤ 12 ^ n ∧ ∀ l ∈ x.lets, LetOk hs l
  | n, ih, x, hx => by
    cases hxt : x.isTell with
    | true =>
      cases x with
      | tell a b w =>
        have := ok_tell hx
        refine ⟨by show 1 ≤ 12 ^ n; exact Nat.one_le_pow _ _ (by decide), fun l hl => ?_⟩
        have : l = ⟨a, b, w⟩ := by simpa [Stp.lets] using hl
        rw [this]
        exact ok_tell hx
      | _ => cases hxt
    | false =>
      cases n with
      | zero => rw [ok_zero hx] at hxt; cases hxt
      | succ n =>
        rw [lets_parts hxt]
        obtain ⟨h1, h2⟩ := sum_le (ih n (Nat.lt_succ_self _)) x.parts (ok_parts hx)
        have h3 := ok_nparts hx
        refine ⟨Nat.le_trans h1 ?_, h2⟩
        have : x.parts.length * (4 * 12 ^ n) ≤ 3 * (4 * 12 ^ n) := Nat.mul_le_mul_right _ h3
        rw [Nat.pow_succ]
        omega
theorem lets_steps {hs : List Str} {n : Nat} (ih : ∀ x : Stp, x.ok hs n → x.lets.length ≤ 12 ^ n ∧ ∀ l ∈ x.lets, LetOk hs l) : ∀ s : List Stp, stsOk hs n s → (stsLets s).length ≤ s.length * 12 ^ n ∧ ∀ l ∈ stsLets s, LetOk hs l
  | [], _ => by simp [stsLets]
  | x :: r, h => by
    unfold stsOk at h
    obtain ⟨h1, h2⟩ := ih x h.1
    obtain ⟨h3, h4⟩ := lets_steps ih r h.2
    rw [stsLets, List.length_append, List.length_cons, Nat.add_mul, Nat.one_mul]
    refine ⟨by omega, fun l hl => ?_⟩
    rcases List.mem_append.mp hl with z | z
    · exact h2 l z
    · exact h4 l z
theorem lets_all {hs : List Str} : ∀ (n : Nat) (s : List Stp), stsOk hs n s → (stsLets s).length ≤ s.length * 12 ^ n ∧ ∀ l ∈ stsLets s, LetOk hs l := by
  intro n
  induction n using Nat.strongRecOn with
  | ind n ih =>
    refine lets_steps (lets_step fun m hm s hl hs' => ?_)
    obtain ⟨h1, h2⟩ := ih m hm s hs'
    exact ⟨Nat.le_trans h1 (Nat.mul_le_mul_right _ hl), h2⟩
section
variable {T : Tab} {g : Str → Option PyData} {fu : Nat}
theorem letD_tell (a b w : Str) : cutA [PyData.str "tell", .str a, .str b, .str w] (some 1) none = [.str a, .str b, .str w] := cut1
/-- the letters of steps, by the law's own def -/
theorem letters_ok (hT : T "_law_letters" = some d_law_letters) {hs : List Str} : ∀ (n k : Nat) (s : List Stp), n ≤ 4 → s.length ≤ 100 → stsOk hs n s → callAt T g fu (k + n + 1) "_law_letters" [.tuple (stsD s)] = some (.list ((stsLets s).map Letter.d))
  | n, k, s, hn4, hl, hs' => by
    have pw : ∀ m : Nat, m ≤ 4 → 12 ^ m ≤ 20736 := by
      intro m hm
      have : m = 0 ∨ m = 1 ∨ m = 2 ∨ m = 3 ∨ m = 4 := by omega
      rcases this with rfl | rfl | rfl | rfl | rfl <;> decide
    have bound : ∀ t : List Stp, (∀ x ∈ t, x ∈ s) → t.length ≤ 100 → (stsLets t).length ≤ 100 * 20736 := fun t ht htl => by
      have h1 := (lets_all n t (stsOk_all.mpr fun x hx => stsOk_all.mp hs' x (ht x hx))).1
      exact Nat.le_trans h1 (Nat.mul_le_mul htl (pw n hn4))
    obtain ⟨ρ', hf, hR⟩ := forRun_pre (tg := .name 3) (e := Stp.d) (post := s) (pre := []) (xs := s) (ρ := [.val (.tuple (stsD s)), .own [], .none, .none])
      (body := fun ρ' => exs ⟨callAt T g fu (k + n), fu, g⟩ ρ' (.cons (.ife (.cmp .eq (.idx (.var 3) (.lit (.int 0))) (.lit (.str "tell"))) (.cons (.append 1 (.slice (.var 3) (.som (.lit (.int 1))) .non)) .nil) (.cons (.ife (.cmp .eq (.idx (.var 3) (.lit (.int 0))) (.lit (.str "choice"))) (.cons (.for_ (.name 2) (.seq (.idx (.var 3) (.lit (.int 1)))) (.cons (.setF 1 (.bin .add (.var 1) (.call "_law_letters" (.cons (.var 2) .nil)))) .nil)) .nil) (.cons (.for_ (.name 2) (.seq (.slice (.var 3) (.som (.lit (.int 1))) .non)) (.cons (.setF 1 (.bin .add (.var 1) (.call "_law_letters" (.cons (.var 2) .nil)))) .nil)) .nil)) .nil)) .nil))
      (R := fun pre ρ => ∃ p x, ρ = [.val (.tuple (stsD s)), .own ((stsLets pre).map Letter.d), p, x]) rfl ⟨.none, .none, rfl⟩ (fun pre x post ρ hx ⟨p, y, hρ⟩ => by
        subst hρ
        have hxo : x.ok hs n := stsOk_all.mp hs' x (by rw [hx]; simp)
        have hsl : s.length = pre.length + (post.length + 1) := by rw [hx]; simp
        have hb1 := bound pre (fun z hz => by rw [hx]; simp [hz]) (by omega)
        have hb2 := bound (pre ++ [x]) (fun z hz => by rw [hx]; simp at hz ⊢; rcases hz with h | h <;> simp [h]) (by simp; omega)
        have e2 : stsLets (pre ++ [x]) = stsLets pre ++ x.lets := by rw [stsLets_app]; simp [stsLets]
        rw [e2] at hb2 ⊢
        cases hxt : x.isTell with
        | true =>
          cases x with
          | tell a b w =>
            refine ⟨_, _, rfl, ?_, p, .val (Stp.tell a b w).d, rfl⟩
            have hsz : szOk (((stsLets pre).map Letter.d).length + 1) = true := by rw [List.length_map]; exact sz_ok (by omega)
            simp only [Stp.d, exs, ex, ev, evs, evPart, evIt, sealE, sealIt, rd_val, rd_own, rd_succ, Lr.add_int, Lr.sub_int, fdiv_int, Lr.mod_int, bin_add, bin_sub, bin_mul, bin_fdiv, bin_mod, cmp_eq, cmp_ne, cmp_lt, cmp_le, cmp_gt, cmp_ge, cmp_in, cmp_notin, cmp_isN, cmp_isnotN, Lr.eq_int, Lr.ne_int, Lr.len_lst, Lr.len_tup, tuple_lst, tuple_tup, list_lst, list_tup, int_bl, bi_len, bi_tuple, bi_list, bi_int, bi_join, bi_any, bi_all, idx_lst, idx_tup, Lr.sl_lst, Lr.sl_tup, and_t, and_f, or_f, or_t, not_b, neg_i, cond_t, cond_f, rng1, rng2, list_of, part_i, seq_nx, seq_ret, seq_brk, seq_cont, if_t, if_f, own_some, own_val, own_non, sv_some, sv_none, bind_name, start0, Option.bind_some, Option.bind_none, Option.map_some, Option.map_none, List.map_cons, List.map_nil, List.length_cons, List.length_nil, List.replicate, List.cons_append, List.nil_append, List.getElem?_cons_zero, List.getElem?_cons_succ, List.set_cons_zero, List.set_cons_succ, Nat.reduceAdd, Nat.reduceSub, if_true, if_false, Bool.false_eq_true, reduceIte, decide_true, decide_false, Bool.and_self, Bool.and_true, Bool.true_and, Int.reduceLT, Int.reduceNeg, Nat.reduceLeDiff, at0, e_tt, cut1, hsz, Stp.lets, List.map_append]
            rfl
          | _ => cases hxt
        | false =>
          cases n with
          | zero => rw [ok_zero hxo] at hxt; cases hxt
          | succ n =>
            have hp := ok_parts hxo
            have hnp := ok_nparts hxo
            obtain ⟨ρ2, hf2, q2, hR2⟩ := forRun_pre (tg := .name 2) (e := fun t => PyData.tuple (stsD t)) (post := x.parts) (pre := []) (xs := x.parts) (ρ := [.val (.tuple (stsD s)), .own ((stsLets pre).map Letter.d), p, .val x.d])
              (body := fun ρ' => exs ⟨callAt T g fu (k + (n + 1)), fu, g⟩ ρ' (.cons (.setF 1 (.bin .add (.var 1) (.call "_law_letters" (.cons (.var 2) .nil)))) .nil))
              (R := fun qre ρ => ∃ p', ρ = [.val (.tuple (stsD s)), .own ((stsLets pre ++ brsLets qre).map Letter.d), p', .val x.d]) rfl ⟨p, by simp [brsLets]⟩ (fun qre t qost ρ ht ⟨p', hρ⟩ => by
                subst hρ
                have htm : t ∈ x.parts := by rw [ht]; simp
                have ih := letters_ok hT n k t (by omega) (by have := (hp t htm).1; omega) (hp t htm).2
                have ih : callAt T g fu (k + (n + 1)) "_law_letters" [.tuple (stsD t)] = some (.list ((stsLets t).map Letter.d)) := ih
                have e3 : brsLets (qre ++ [t]) = brsLets qre ++ stsLets t := by rw [brsLets_app]; simp [brsLets]
                have e4 : x.lets = brsLets qre ++ (stsLets t ++ brsLets qost) := by rw [lets_parts hxt, ht, brsLets_app, brsLets]
                rw [e4] at hb2
                have hsz : szOk (((stsLets pre ++ brsLets qre).map Letter.d).length + ((stsLets t).map Letter.d).length) = true := by
                  simp only [List.length_map, List.length_append] at hb2 ⊢
                  exact sz_ok (by omega)
                refine ⟨_, _, rfl, ?_, .val (.tuple (stsD t)), by rw [e3]⟩
                simp only [exs, ex, ev, evs, evPart, evIt, sealE, sealIt, rd_val, rd_own, rd_succ, Lr.add_int, Lr.sub_int, fdiv_int, Lr.mod_int, bin_add, bin_sub, bin_mul, bin_fdiv, bin_mod, cmp_eq, cmp_ne, cmp_lt, cmp_le, cmp_gt, cmp_ge, cmp_in, cmp_notin, cmp_isN, cmp_isnotN, Lr.eq_int, Lr.ne_int, Lr.len_lst, Lr.len_tup, tuple_lst, tuple_tup, list_lst, list_tup, int_bl, bi_len, bi_tuple, bi_list, bi_int, bi_join, bi_any, bi_all, idx_lst, idx_tup, Lr.sl_lst, Lr.sl_tup, and_t, and_f, or_f, or_t, not_b, neg_i, cond_t, cond_f, rng1, rng2, list_of, part_i, seq_nx, seq_ret, seq_brk, seq_cont, if_t, if_f, own_some, own_val, own_non, sv_some, sv_none, bind_name, start0, Option.bind_some, Option.bind_none, Option.map_some, Option.map_none, List.map_cons, List.map_nil, List.length_cons, List.length_nil, List.replicate, List.cons_append, List.nil_append, List.getElem?_cons_zero, List.getElem?_cons_succ, List.set_cons_zero, List.set_cons_succ, Nat.reduceAdd, Nat.reduceSub, if_true, if_false, Bool.false_eq_true, reduceIte, decide_true, decide_false, Bool.and_self, Bool.and_true, Bool.true_and, Int.reduceLT, Int.reduceNeg, Nat.reduceLeDiff, ih, Lr.add_lst, hsz]
                simp only [List.map_append, List.append_assoc])
            subst hR2
            refine ⟨_, _, rfl, ?_, q2, .val x.d, rfl⟩
            rw [lets_parts hxt]
            have hszp : szOk (x.parts.map fun t => PyData.tuple (stsD t)).length = true := by rw [List.length_map]; exact sz_ok (by omega)
            simp only [exs, ex, ev, evs, evPart, evIt, sealE, sealIt, rd_val, rd_own, rd_succ, Lr.add_int, Lr.sub_int, fdiv_int, Lr.mod_int, bin_add, bin_sub, bin_mul, bin_fdiv, bin_mod, cmp_eq, cmp_ne, cmp_lt, cmp_le, cmp_gt, cmp_ge, cmp_in, cmp_notin, cmp_isN, cmp_isnotN, Lr.eq_int, Lr.ne_int, Lr.len_lst, Lr.len_tup, tuple_lst, tuple_tup, list_lst, list_tup, int_bl, bi_len, bi_tuple, bi_list, bi_int, bi_join, bi_any, bi_all, idx_lst, idx_tup, Lr.sl_lst, Lr.sl_tup, and_t, and_f, or_f, or_t, not_b, neg_i, cond_t, cond_f, rng1, rng2, list_of, part_i, seq_nx, seq_ret, seq_brk, seq_cont, if_t, if_f, own_some, own_val, own_non, sv_some, sv_none, bind_name, start0, Option.bind_some, Option.bind_none, Option.map_some, Option.map_none, List.map_cons, List.map_nil, List.length_cons, List.length_nil, List.replicate, List.cons_append, List.nil_append, List.getElem?_cons_zero, List.getElem?_cons_succ, List.set_cons_zero, List.set_cons_succ, Nat.reduceAdd, Nat.reduceSub, if_true, if_false, Bool.false_eq_true, reduceIte, decide_true, decide_false, Bool.and_self, Bool.and_true, Bool.true_and, Int.reduceLT, Int.reduceNeg, Nat.reduceLeDiff] at hf2
            cases x with
            | tell a b w => cases hxt
            | choice bs =>
              simp only [Stp.parts] at hf2 hszp
              simp only [Stp.d, brsD_map] at hf2 ⊢
              simp only [exs, ex, ev, evs, evPart, evIt, sealE, sealIt, rd_val, rd_own, rd_succ, Lr.add_int, Lr.sub_int, fdiv_int, Lr.mod_int, bin_add, bin_sub, bin_mul, bin_fdiv, bin_mod, cmp_eq, cmp_ne, cmp_lt, cmp_le, cmp_gt, cmp_ge, cmp_in, cmp_notin, cmp_isN, cmp_isnotN, Lr.eq_int, Lr.ne_int, Lr.len_lst, Lr.len_tup, tuple_lst, tuple_tup, list_lst, list_tup, int_bl, bi_len, bi_tuple, bi_list, bi_int, bi_join, bi_any, bi_all, idx_lst, idx_tup, Lr.sl_lst, Lr.sl_tup, and_t, and_f, or_f, or_t, not_b, neg_i, cond_t, cond_f, rng1, rng2, list_of, part_i, seq_nx, seq_ret, seq_brk, seq_cont, if_t, if_f, own_some, own_val, own_non, sv_some, sv_none, bind_name, start0, Option.bind_some, Option.bind_none, Option.map_some, Option.map_none, List.map_cons, List.map_nil, List.length_cons, List.length_nil, List.replicate, List.cons_append, List.nil_append, List.getElem?_cons_zero, List.getElem?_cons_succ, List.set_cons_zero, List.set_cons_succ, Nat.reduceAdd, Nat.reduceSub, if_true, if_false, Bool.false_eq_true, reduceIte, decide_true, decide_false, Bool.and_self, Bool.and_true, Bool.true_and, Int.reduceLT, Int.reduceNeg, Nat.reduceLeDiff, at0, at1, e_ct, e_cc, seqI_tup, hszp, hf2]
              rfl
            | round u =>
              simp only [Stp.parts, exs, ex, ev, evs, evPart, evIt, sealE, sealIt, rd_val, rd_own, rd_succ, Lr.add_int, Lr.sub_int, fdiv_int, Lr.mod_int, bin_add, bin_sub, bin_mul, bin_fdiv, bin_mod, cmp_eq, cmp_ne, cmp_lt, cmp_le, cmp_gt, cmp_ge, cmp_in, cmp_notin, cmp_isN, cmp_isnotN, Lr.eq_int, Lr.ne_int, Lr.len_lst, Lr.len_tup, tuple_lst, tuple_tup, list_lst, list_tup, int_bl, bi_len, bi_tuple, bi_list, bi_int, bi_join, bi_any, bi_all, idx_lst, idx_tup, Lr.sl_lst, Lr.sl_tup, and_t, and_f, or_f, or_t, not_b, neg_i, cond_t, cond_f, rng1, rng2, list_of, part_i, seq_nx, seq_ret, seq_brk, seq_cont, if_t, if_f, own_some, own_val, own_non, sv_some, sv_none, bind_name, start0, Option.bind_some, Option.bind_none, Option.map_some, Option.map_none, List.map_cons, List.map_nil, List.length_cons, List.length_nil, List.replicate, List.cons_append, List.nil_append, List.getElem?_cons_zero, List.getElem?_cons_succ, List.set_cons_zero, List.set_cons_succ, Nat.reduceAdd, Nat.reduceSub, if_true, if_false, Bool.false_eq_true, reduceIte, decide_true, decide_false, Bool.and_self, Bool.and_true, Bool.true_and, Int.reduceLT, Int.reduceNeg, Nat.reduceLeDiff] at hf2
              simp only [Stp.d] at hf2 ⊢
              simp only [exs, ex, ev, evs, evPart, evIt, sealE, sealIt, rd_val, rd_own, rd_succ, Lr.add_int, Lr.sub_int, fdiv_int, Lr.mod_int, bin_add, bin_sub, bin_mul, bin_fdiv, bin_mod, cmp_eq, cmp_ne, cmp_lt, cmp_le, cmp_gt, cmp_ge, cmp_in, cmp_notin, cmp_isN, cmp_isnotN, Lr.eq_int, Lr.ne_int, Lr.len_lst, Lr.len_tup, tuple_lst, tuple_tup, list_lst, list_tup, int_bl, bi_len, bi_tuple, bi_list, bi_int, bi_join, bi_any, bi_all, idx_lst, idx_tup, Lr.sl_lst, Lr.sl_tup, and_t, and_f, or_f, or_t, not_b, neg_i, cond_t, cond_f, rng1, rng2, list_of, part_i, seq_nx, seq_ret, seq_brk, seq_cont, if_t, if_f, own_some, own_val, own_non, sv_some, sv_none, bind_name, start0, Option.bind_some, Option.bind_none, Option.map_some, Option.map_none, List.map_cons, List.map_nil, List.length_cons, List.length_nil, List.replicate, List.cons_append, List.nil_append, List.getElem?_cons_zero, List.getElem?_cons_succ, List.set_cons_zero, List.set_cons_succ, Nat.reduceAdd, Nat.reduceSub, if_true, if_false, Bool.false_eq_true, reduceIte, decide_true, decide_false, Bool.and_self, Bool.and_true, Bool.true_and, Int.reduceLT, Int.reduceNeg, Nat.reduceLeDiff, at0, at1, e_rt, e_rc, cut1, seqI_tup, sz1, hf2]
              rfl
            | both u v =>
              simp only [Stp.parts, exs, ex, ev, evs, evPart, evIt, sealE, sealIt, rd_val, rd_own, rd_succ, Lr.add_int, Lr.sub_int, fdiv_int, Lr.mod_int, bin_add, bin_sub, bin_mul, bin_fdiv, bin_mod, cmp_eq, cmp_ne, cmp_lt, cmp_le, cmp_gt, cmp_ge, cmp_in, cmp_notin, cmp_isN, cmp_isnotN, Lr.eq_int, Lr.ne_int, Lr.len_lst, Lr.len_tup, tuple_lst, tuple_tup, list_lst, list_tup, int_bl, bi_len, bi_tuple, bi_list, bi_int, bi_join, bi_any, bi_all, idx_lst, idx_tup, Lr.sl_lst, Lr.sl_tup, and_t, and_f, or_f, or_t, not_b, neg_i, cond_t, cond_f, rng1, rng2, list_of, part_i, seq_nx, seq_ret, seq_brk, seq_cont, if_t, if_f, own_some, own_val, own_non, sv_some, sv_none, bind_name, start0, Option.bind_some, Option.bind_none, Option.map_some, Option.map_none, List.map_cons, List.map_nil, List.length_cons, List.length_nil, List.replicate, List.cons_append, List.nil_append, List.getElem?_cons_zero, List.getElem?_cons_succ, List.set_cons_zero, List.set_cons_succ, Nat.reduceAdd, Nat.reduceSub, if_true, if_false, Bool.false_eq_true, reduceIte, decide_true, decide_false, Bool.and_self, Bool.and_true, Bool.true_and, Int.reduceLT, Int.reduceNeg, Nat.reduceLeDiff] at hf2
              simp only [Stp.d] at hf2 ⊢
              simp only [exs, ex, ev, evs, evPart, evIt, sealE, sealIt, rd_val, rd_own, rd_succ, Lr.add_int, Lr.sub_int, fdiv_int, Lr.mod_int, bin_add, bin_sub, bin_mul, bin_fdiv, bin_mod, cmp_eq, cmp_ne, cmp_lt, cmp_le, cmp_gt, cmp_ge, cmp_in, cmp_notin, cmp_isN, cmp_isnotN, Lr.eq_int, Lr.ne_int, Lr.len_lst, Lr.len_tup, tuple_lst, tuple_tup, list_lst, list_tup, int_bl, bi_len, bi_tuple, bi_list, bi_int, bi_join, bi_any, bi_all, idx_lst, idx_tup, Lr.sl_lst, Lr.sl_tup, and_t, and_f, or_f, or_t, not_b, neg_i, cond_t, cond_f, rng1, rng2, list_of, part_i, seq_nx, seq_ret, seq_brk, seq_cont, if_t, if_f, own_some, own_val, own_non, sv_some, sv_none, bind_name, start0, Option.bind_some, Option.bind_none, Option.map_some, Option.map_none, List.map_cons, List.map_nil, List.length_cons, List.length_nil, List.replicate, List.cons_append, List.nil_append, List.getElem?_cons_zero, List.getElem?_cons_succ, List.set_cons_zero, List.set_cons_succ, Nat.reduceAdd, Nat.reduceSub, if_true, if_false, Bool.false_eq_true, reduceIte, decide_true, decide_false, Bool.and_self, Bool.and_true, Bool.true_and, Int.reduceLT, Int.reduceNeg, Nat.reduceLeDiff, at0, at1, e_bt, e_bc, cut1, seqI_tup, sz2, hf2]
              rfl)
    obtain ⟨p, x, rfl⟩ := hR
    refine call_at hT rfl ?_
    have hsz : szOk (stsD s).length = true := by rw [stsD_len]; exact sz_ok (by omega)
    rw [← stsD_map] at hf
    simp only [d_law_letters, exs, ex, ev, evs, evPart, evIt, sealE, sealIt, rd_val, rd_own, rd_succ, Lr.add_int, Lr.sub_int, fdiv_int, Lr.mod_int, bin_add, bin_sub, bin_mul, bin_fdiv, bin_mod, cmp_eq, cmp_ne, cmp_lt, cmp_le, cmp_gt, cmp_ge, cmp_in, cmp_notin, cmp_isN, cmp_isnotN, Lr.eq_int, Lr.ne_int, Lr.len_lst, Lr.len_tup, tuple_lst, tuple_tup, list_lst, list_tup, int_bl, bi_len, bi_tuple, bi_list, bi_int, bi_join, bi_any, bi_all, idx_lst, idx_tup, Lr.sl_lst, Lr.sl_tup, and_t, and_f, or_f, or_t, not_b, neg_i, cond_t, cond_f, rng1, rng2, list_of, part_i, seq_nx, seq_ret, seq_brk, seq_cont, if_t, if_f, own_some, own_val, own_non, sv_some, sv_none, bind_name, start0, Option.bind_some, Option.bind_none, Option.map_some, Option.map_none, List.map_cons, List.map_nil, List.length_cons, List.length_nil, List.replicate, List.cons_append, List.nil_append, List.getElem?_cons_zero, List.getElem?_cons_succ, List.set_cons_zero, List.set_cons_succ, Nat.reduceAdd, Nat.reduceSub, if_true, if_false, Bool.false_eq_true, reduceIte, decide_true, decide_false, Bool.and_self, Bool.and_true, Bool.true_and, Int.reduceLT, Int.reduceNeg, Nat.reduceLeDiff, lst_d, sz0, seqI_tup, hsz]
    simp only [exs, ex, ev, evs, evPart, evIt, sealE, sealIt, rd_val, rd_own, rd_succ, Lr.add_int, Lr.sub_int, fdiv_int, Lr.mod_int, bin_add, bin_sub, bin_mul, bin_fdiv, bin_mod, cmp_eq, cmp_ne, cmp_lt, cmp_le, cmp_gt, cmp_ge, cmp_in, cmp_notin, cmp_isN, cmp_isnotN, Lr.eq_int, Lr.ne_int, Lr.len_lst, Lr.len_tup, tuple_lst, tuple_tup, list_lst, list_tup, int_bl, bi_len, bi_tuple, bi_list, bi_int, bi_join, bi_any, bi_all, idx_lst, idx_tup, Lr.sl_lst, Lr.sl_tup, and_t, and_f, or_f, or_t, not_b, neg_i, cond_t, cond_f, rng1, rng2, list_of, part_i, seq_nx, seq_ret, seq_brk, seq_cont, if_t, if_f, own_some, own_val, own_non, sv_some, sv_none, bind_name, start0, Option.bind_some, Option.bind_none, Option.map_some, Option.map_none, List.map_cons, List.map_nil, List.length_cons, List.length_nil, List.replicate, List.cons_append, List.nil_append, List.getElem?_cons_zero, List.getElem?_cons_succ, List.set_cons_zero, List.set_cons_succ, Nat.reduceAdd, Nat.reduceSub, if_true, if_false, Bool.false_eq_true, reduceIte, decide_true, decide_false, Bool.and_self, Bool.and_true, Bool.true_and, Int.reduceLT, Int.reduceNeg, Nat.reduceLeDiff] at hf
    rw [hf]
    simp only [exs, ex, ev, evs, evPart, evIt, sealE, sealIt, rd_val, rd_own, rd_succ, Lr.add_int, Lr.sub_int, fdiv_int, Lr.mod_int, bin_add, bin_sub, bin_mul, bin_fdiv, bin_mod, cmp_eq, cmp_ne, cmp_lt, cmp_le, cmp_gt, cmp_ge, cmp_in, cmp_notin, cmp_isN, cmp_isnotN, Lr.eq_int, Lr.ne_int, Lr.len_lst, Lr.len_tup, tuple_lst, tuple_tup, list_lst, list_tup, int_bl, bi_len, bi_tuple, bi_list, bi_int, bi_join, bi_any, bi_all, idx_lst, idx_tup, Lr.sl_lst, Lr.sl_tup, and_t, and_f, or_f, or_t, not_b, neg_i, cond_t, cond_f, rng1, rng2, list_of, part_i, seq_nx, seq_ret, seq_brk, seq_cont, if_t, if_f, own_some, own_val, own_non, sv_some, sv_none, bind_name, start0, Option.bind_some, Option.bind_none, Option.map_some, Option.map_none, List.map_cons, List.map_nil, List.length_cons, List.length_nil, List.replicate, List.cons_append, List.nil_append, List.getElem?_cons_zero, List.getElem?_cons_succ, List.set_cons_zero, List.set_cons_succ, Nat.reduceAdd, Nat.reduceSub, if_true, if_false, Bool.false_eq_true, reduceIte, decide_true, decide_false, Bool.and_self, Bool.and_true, Bool.true_and, Int.reduceLT, Int.reduceNeg, Nat.reduceLeDiff]
end
end Lr
namespace Lr
open PySem PySem.Spec PyProof.Rows L2
/-! ### shapes -/
def Lay (m : Nat) (d : PyData) : Prop := d.canLay0 = true ∧ d.depth ≤ m
theorem lay_all {m : Nat} : ∀ {ds : List PyData}, (∀ d ∈ ds, Lay m d) → PyData.canLayAll0 ds = true ∧ PyData.depthAll ds ≤ m
  | [], _ => ⟨rfl, Nat.zero_le _⟩
  | d :: ds, h => by
    obtain ⟨h1, h2⟩ := lay_all (ds := ds) fun x hx => h x (List.mem_cons_of_mem _ hx)
    obtain ⟨h3, h4⟩ := h d List.mem_cons_self
    refine ⟨by simp only [PyData.canLayAll0, h1, h3, Bool.and_self], ?_⟩
    simp only [PyData.depthAll]
    omega
theorem lay_tup {m : Nat} {ds : List PyData} (h : ∀ d ∈ ds, Lay m d) : Lay (m + 1) (.tuple ds) := by
  obtain ⟨h1, h2⟩ := lay_all h
  exact ⟨by simp only [PyData.canLay0, h1], by simp only [PyData.depth]; omega⟩
theorem lay_lst {m : Nat} {ds : List PyData} (h : ∀ d ∈ ds, Lay m d) : Lay (m + 1) (.list ds) := by
  obtain ⟨h1, h2⟩ := lay_all h
  exact ⟨by simp only [PyData.canLay0, h1], by simp only [PyData.depth]; omega⟩
theorem Lay.mono {m n : Nat} {d : PyData} (h : Lay m d) (hn : m ≤ n) : Lay n d := ⟨h.1, Nat.le_trans h.2 hn⟩
theorem lay_str {z : Str} (h : NameOk z) : Lay 0 (.str z) := ⟨by unfold PyData.canLay0; exact strOk_of h, Nat.le_refl _⟩
theorem Lay.shaped {m : Nat} {d : PyData} (h : Lay m d) (hm : m ≤ 64) : SeqAt.shaped d = true := by
  unfold SeqAt.shaped
  rw [Bool.and_eq_true]
  exact ⟨h.1, decide_eq_true (Nat.le_trans h.2 hm)⟩
theorem lay_kw (z : Str) (h : PyData.strOk z = true) : Lay 0 (.str z) := ⟨by unfold PyData.canLay0; exact h, Nat.le_refl _⟩
theorem lay_hs {hs : List Str} (h : ∀ x ∈ hs, NameOk x) : Lay 1 (hsD hs) := lay_tup fun d hd => by
  obtain ⟨x, hx, rfl⟩ := List.mem_map.mp hd
  exact lay_str (h x hx)
theorem lay_step {hs : List Str} (hn : ∀ x ∈ hs, NameOk x) : ∀ {n : Nat}, (∀ m, m < n → ∀ s : List Stp, stsOk hs m s → ∀ d ∈ stsD s, Lay (3 * m + 1) d) → ∀ x : Stp, x.ok hs n → Lay (3 * n + 1) x.d
  | n, ih, x, hx => by
    cases x with
    | tell a b w =>
      obtain ⟨ha, hb, hw⟩ := ok_tell hx
      refine (lay_tup (m := 0) fun d hd => ?_).mono (by omega)
      simp only [List.mem_cons, List.not_mem_nil, or_false] at hd
      rcases hd with rfl | rfl | rfl | rfl
      · exact lay_kw _ (by decide +kernel)
      · exact lay_str (hn _ ha)
      · exact lay_str (hn _ hb)
      · exact lay_str hw
    | choice bs =>
      cases n with
      | zero => unfold Stp.ok at hx; exact hx.elim
      | succ n =>
        unfold Stp.d
        refine (lay_tup (m := 3 * n + 3) fun d hd => ?_)
        simp only [List.mem_cons, List.not_mem_nil, or_false] at hd
        rcases hd with rfl | rfl
        · exact (lay_kw _ (by decide +kernel)).mono (by omega)
        · refine lay_tup fun e he => ?_
          rw [brsD_map] at he
          obtain ⟨t, ht, rfl⟩ := List.mem_map.mp he
          exact lay_tup (ih n (Nat.lt_succ_self _) t (ok_parts hx t ht).2)
    | round s =>
      cases n with
      | zero => unfold Stp.ok at hx; exact hx.elim
      | succ n =>
        unfold Stp.d
        refine (lay_tup (m := 3 * n + 2) fun d hd => ?_).mono (by omega)
        simp only [List.mem_cons, List.not_mem_nil, or_false] at hd
        rcases hd with rfl | rfl
        · exact (lay_kw _ (by decide +kernel)).mono (by omega)
        · exact lay_tup (ih n (Nat.lt_succ_self _) s (ok_parts hx s (by simp [Stp.parts])).2)
    | both s t =>
      cases n with
      | zero => unfold Stp.ok at hx; exact hx.elim
      | succ n =>
        unfold Stp.d
        refine (lay_tup (m := 3 * n + 2) fun d hd => ?_).mono (by omega)
        simp only [List.mem_cons, List.not_mem_nil, or_false] at hd
        rcases hd with rfl | rfl | rfl
        · exact (lay_kw _ (by decide +kernel)).mono (by omega)
        · exact lay_tup (ih n (Nat.lt_succ_self _) s (ok_parts hx s (by simp [Stp.parts])).2)
        · exact lay_tup (ih n (Nat.lt_succ_self _) t (ok_parts hx t (by simp [Stp.parts])).2)
theorem lay_steps {hs : List Str} (hn : ∀ x ∈ hs, NameOk x) : ∀ (n : Nat) (s : List Stp), stsOk hs n s → ∀ d ∈ stsD s, Lay (3 * n + 1) d := by
  intro n
  induction n using Nat.strongRecOn with
  | ind n ih =>
    intro s hs' d hd
    rw [stsD_map] at hd
    obtain ⟨x, hx, rfl⟩ := List.mem_map.mp hd
    exact lay_step hn ih x (stsOk_all.mp hs' x hx)
theorem lay_talk {hs : List Str} (hn : ∀ x ∈ hs, NameOk x) {n : Nat} {s : List Stp} (h : stsOk hs n s) : Lay (3 * n + 3) (talkD hs s) := by
  unfold talkD
  refine lay_tup (m := 3 * n + 2) fun d hd => ?_
  simp only [List.mem_cons, List.not_mem_nil, or_false] at hd
  rcases hd with rfl | rfl
  · exact (lay_hs hn).mono (by omega)
  · exact lay_tup (lay_steps hn n s h)
theorem lay_letter {hs : List Str} (hn : ∀ x ∈ hs, NameOk x) {l : Letter} (h : LetOk hs l) : Lay 1 l.d := by
  unfold Letter.d
  refine lay_tup fun d hd => ?_
  simp only [List.mem_cons, List.not_mem_nil, or_false] at hd
  rcases hd with rfl | rfl | rfl
  · exact lay_str (hn _ h.1)
  · exact lay_str (hn _ h.2.1)
  · exact lay_str h.2.2
theorem ne_same {m : Nat} {d : PyData} (h : Lay m d) (hm : m ≤ 64) : neEv d d = some false := by
  unfold neEv
  rw [h.shaped hm, SeqAt.eqv_refl d h.1]
  rfl
theorem eq_same {m : Nat} {d : PyData} (h : Lay m d) (hm : m ≤ 64) : eqEv d d = some true := by
  unfold eqEv
  rw [h.shaped hm, SeqAt.eqv_refl d h.1]
  rfl
theorem eq_strs {x y : Str} (hx : NameOk x) (hy : NameOk y) : eqEv (.str x) (.str y) = some (decide (x = y)) := by
  unfold eqEv
  rw [shaped_str hx, shaped_str hy, eqv_str]
  rfl
/-- a view is of the same kind -/
theorem view_okS {hs : List Str} {h : Str} : ∀ {n : Nat}, (∀ m, m < n → ∀ s : List Stp, s.length ≤ 4 → stsOk hs m s → stsOk hs m (stsView h s)) → ∀ x : Stp, x.ok hs n → ∀ y ∈ x.view h, y.ok hs n
  | n, ih, x, hx, y, hy => by
    cases x with
    | tell a b w =>
      unfold Stp.view at hy
      split at hy
      · have : y = .tell a b w := by simpa using hy
        rw [this]; exact hx
      · cases hy
    | choice bs =>
      cases n with
      | zero => unfold Stp.ok at hx; exact hx.elim
      | succ n =>
        have e : y = .choice (brsView h bs) := by unfold Stp.view at hy; simpa using hy
        rw [e, brsView_map]
        have hp := ok_parts hx
        unfold Stp.ok at hx ⊢
        refine ⟨by rw [List.length_map]; exact hx.1, by rw [List.length_map]; exact hx.2.1, brsOk_all.mpr fun t ht => ?_⟩
        obtain ⟨u, hu, rfl⟩ := List.mem_map.mp ht
        exact ⟨Nat.le_trans (stsView_len h u) (hp u hu).1, ih n (Nat.lt_succ_self _) u (hp u hu).1 (hp u hu).2⟩
    | round s =>
      cases n with
      | zero => unfold Stp.ok at hx; exact hx.elim
      | succ n =>
        have e : y = .round (stsView h s) := by unfold Stp.view at hy; simpa using hy
        rw [e]
        unfold Stp.ok at hx ⊢
        exact ⟨Nat.le_trans (stsView_len h s) hx.1, ih n (Nat.lt_succ_self _) s hx.1 hx.2⟩
    | both s t =>
      cases n with
      | zero => unfold Stp.ok at hx; exact hx.elim
      | succ n =>
        have e : y = .both (stsView h s) (stsView h t) := by unfold Stp.view at hy; simpa using hy
        rw [e]
        unfold Stp.ok at hx ⊢
        exact ⟨Nat.le_trans (stsView_len h s) hx.1, ih n (Nat.lt_succ_self _) s hx.1 hx.2.1, Nat.le_trans (stsView_len h t) hx.2.2.1, ih n (Nat.lt_succ_self _) t hx.2.2.1 hx.2.2.2⟩
theorem view_sts {hs : List Str} {h : Str} : ∀ (n : Nat) (s : List Stp), stsOk hs n s → stsOk hs n (stsView h s) := by
  intro n
  induction n using Nat.strongRecOn with
  | ind n ih =>
    intro s
    induction s with
    | nil => intro _; simp [stsView, stsOk]
    | cons a r ih2 =>
      intro hs'
      unfold stsOk at hs'
      rw [stsView, stsOk_all]
      intro y hy
      rcases List.mem_append.mp hy with z | z
      · exact view_okS (fun m hm s _ => ih m hm s) a hs'.1 y z
      · exact stsOk_all.mp (ih2 hs'.2) y z
section
variable {T : Tab} {g : Str → Option PyData} {fu : Nat}
/-- the law's own view -/
theorem law_view_ok (hT : T "_law_view" = some d_law_view) {hs : List Str} {h : Str} (hh : NameOk h) (hn : ∀ x ∈ hs, NameOk x) : ∀ (n k : Nat) (s : List Stp), s.length ≤ 100 → stsOk hs n s → callAt T g fu (k + n + 1) "_law_view" [.tuple (stsD s), .str h] = some (.tuple (stsD (stsView h s)))
  | n, k, s, hl, hs' => by
    obtain ⟨ρ', hf, hR⟩ := forRun_pre (tg := .name 5) (e := Stp.d) (post := s) (pre := []) (xs := s) (ρ := [.val (.tuple (stsD s)), .val (.str h), .val (.tuple []), .none, .none, .none])
      (body := fun ρ' => exs ⟨callAt T g fu (k + n), fu, g⟩ ρ' (.cons (.ife (.cmp .eq (.idx (.var 5) (.lit (.int 0))) (.lit (.str "tell"))) (.cons (.ife (.cmp .isin (.var 1) (.slice (.var 5) (.som (.lit (.int 1))) (.som (.lit (.int 3))))) (.cons (.set 2 (.bin .add (.var 2) (.tup (.cons (.var 5) .nil)))) .nil) (.nil)) .nil) (.cons (.ife (.cmp .eq (.idx (.var 5) (.lit (.int 0))) (.lit (.str "choice"))) (.cons (.set 2 (.bin .add (.var 2) (.tup (.cons (.tup (.cons (.lit (.str "choice")) (.cons (.bi .tuple (.cons (.lc (.call "_law_view" (.cons (.var 3) (.cons (.var 1) .nil))) (.name 3) (.seq (.idx (.var 5) (.lit (.int 1)))) (.lit (.bool true))) .nil)) .nil))) .nil)))) .nil) (.cons (.set 4 (.bi .tuple (.cons (.lc (.call "_law_view" (.cons (.var 3) (.cons (.var 1) .nil))) (.name 3) (.seq (.slice (.var 5) (.som (.lit (.int 1))) .non)) (.lit (.bool true))) .nil))) (.cons (.set 2 (.bin .add (.var 2) (.tup (.cons (.bin .add (.slice (.var 5) .non (.som (.lit (.int 1)))) (.var 4)) .nil)))) .nil))) .nil)) .nil))
      (R := fun pre ρ => ∃ p q x, ρ = [.val (.tuple (stsD s)), .val (.str h), .val (.tuple (stsD (stsView h pre))), p, q, x]) rfl ⟨.none, .none, .none, rfl⟩ (fun pre x post ρ hx ⟨p, q, y, hρ⟩ => by
        subst hρ
        have hpl : (stsView h pre).length ≤ 100 := by
          have := stsView_len h pre
          have : s.length = pre.length + (post.length + 1) := by rw [hx]; simp
          omega
        have hxo : x.ok hs n := stsOk_all.mp hs' x (by rw [hx]; simp)
        have hsz : szOk ((stsD (stsView h pre)).length + 1) = true := by rw [stsD_len]; exact sz_ok (by omega)
        cases hxt : x.isTell with
        | true =>
          cases x with
          | tell a b w =>
            obtain ⟨ha, hb, _⟩ := ok_tell hxo
            have hin : isinEv (.str h) (.tuple [.str a, .str b]) = some (decide (h ∈ [a, b])) := isin_hs (hs := [a, b]) hh (by intro x hx; simp at hx; rcases hx with rfl | rfl; exact hn _ ha; exact hn _ hb)
            have ev1 : stsView h [.tell a b w] = if h = a ∨ h = b then [.tell a b w] else [] := by simp [stsView, Stp.view]
            refine ⟨_, _, rfl, ?_, p, q, .val (Stp.tell a b w).d, rfl⟩
            rw [stsView_app, stsD_app, ev1]
            by_cases e : h = a ∨ h = b
            · have e' : h ∈ [a, b] := by simpa using e
              rw [if_pos e]
              simp only [Stp.d, exs, ex, ev, evs, evPart, evIt, sealE, sealIt, rd_val, rd_own, rd_succ, Lr.add_int, Lr.sub_int, fdiv_int, Lr.mod_int, bin_add, bin_sub, bin_mul, bin_fdiv, bin_mod, cmp_eq, cmp_ne, cmp_lt, cmp_le, cmp_gt, cmp_ge, cmp_in, cmp_notin, cmp_isN, cmp_isnotN, Lr.eq_int, Lr.ne_int, Lr.len_lst, Lr.len_tup, tuple_lst, tuple_tup, list_lst, list_tup, int_bl, bi_len, bi_tuple, bi_list, bi_int, bi_join, bi_any, bi_all, idx_lst, idx_tup, Lr.sl_lst, Lr.sl_tup, and_t, and_f, or_f, or_t, not_b, neg_i, cond_t, cond_f, rng1, rng2, list_of, part_i, seq_nx, seq_ret, seq_brk, seq_cont, if_t, if_f, own_some, own_val, own_non, sv_some, sv_none, bind_name, start0, Option.bind_some, Option.bind_none, Option.map_some, Option.map_none, List.map_cons, List.map_nil, List.length_cons, List.length_nil, List.replicate, List.cons_append, List.nil_append, List.getElem?_cons_zero, List.getElem?_cons_succ, List.set_cons_zero, List.set_cons_succ, Nat.reduceAdd, Nat.reduceSub, if_true, if_false, Bool.false_eq_true, reduceIte, decide_true, decide_false, Bool.and_self, Bool.and_true, Bool.true_and, Int.reduceLT, Int.reduceNeg, Nat.reduceLeDiff, at0, e_tt, cut13, hin, decide_eq_true e', tup_d, sz1, Lr.add_tup, hsz]
              rfl
            · have e' : h ∉ [a, b] := by simpa using e
              rw [if_neg e]
              simp only [Stp.d, exs, ex, ev, evs, evPart, evIt, sealE, sealIt, rd_val, rd_own, rd_succ, Lr.add_int, Lr.sub_int, fdiv_int, Lr.mod_int, bin_add, bin_sub, bin_mul, bin_fdiv, bin_mod, cmp_eq, cmp_ne, cmp_lt, cmp_le, cmp_gt, cmp_ge, cmp_in, cmp_notin, cmp_isN, cmp_isnotN, Lr.eq_int, Lr.ne_int, Lr.len_lst, Lr.len_tup, tuple_lst, tuple_tup, list_lst, list_tup, int_bl, bi_len, bi_tuple, bi_list, bi_int, bi_join, bi_any, bi_all, idx_lst, idx_tup, Lr.sl_lst, Lr.sl_tup, and_t, and_f, or_f, or_t, not_b, neg_i, cond_t, cond_f, rng1, rng2, list_of, part_i, seq_nx, seq_ret, seq_brk, seq_cont, if_t, if_f, own_some, own_val, own_non, sv_some, sv_none, bind_name, start0, Option.bind_some, Option.bind_none, Option.map_some, Option.map_none, List.map_cons, List.map_nil, List.length_cons, List.length_nil, List.replicate, List.cons_append, List.nil_append, List.getElem?_cons_zero, List.getElem?_cons_succ, List.set_cons_zero, List.set_cons_succ, Nat.reduceAdd, Nat.reduceSub, if_true, if_false, Bool.false_eq_true, reduceIte, decide_true, decide_false, Bool.and_self, Bool.and_true, Bool.true_and, Int.reduceLT, Int.reduceNeg, Nat.reduceLeDiff, at0, e_tt, cut13, hin, decide_eq_false e', stsD, List.append_nil]
          | _ => cases hxt
        | false =>
          cases n with
          | zero => rw [ok_zero hxo] at hxt; cases hxt
          | succ n =>
            have hp := ok_parts hxo
            have hnp := ok_nparts hxo
            have hlc : ∀ q0, lcRun (fun d => (bindT [.val (.tuple (stsD s)), .val (.str h), .val (.tuple (stsD (stsView h pre))), p, q0, .val x.d] (.name 3) d).bind fun ρ' => (ev true ⟨callAt T g fu (k + (n + 1)), fu, g⟩ ρ' (.lit (.bool true))).bind fun b => condD b (ev false ⟨callAt T g fu (k + (n + 1)), fu, g⟩ ρ' (.call "_law_view" (.cons (.var 3) (.cons (.var 1) .nil))))) (x.parts.map fun t => PyData.tuple (stsD t)) = some (x.parts.map fun t => PyData.tuple (stsD (stsView h t))) := fun q0 =>
              lcRun_map fun t ht => by
                have := law_view_ok hT hh hn n k t (by have := (hp t ht).1; omega) (hp t ht).2
                have this : callAt T g fu (k + (n + 1)) "_law_view" [.tuple (stsD t), .str h] = some (.tuple (stsD (stsView h t))) := this
                simp only [exs, ex, ev, evs, evPart, evIt, sealE, sealIt, rd_val, rd_own, rd_succ, Lr.add_int, Lr.sub_int, fdiv_int, Lr.mod_int, bin_add, bin_sub, bin_mul, bin_fdiv, bin_mod, cmp_eq, cmp_ne, cmp_lt, cmp_le, cmp_gt, cmp_ge, cmp_in, cmp_notin, cmp_isN, cmp_isnotN, Lr.eq_int, Lr.ne_int, Lr.len_lst, Lr.len_tup, tuple_lst, tuple_tup, list_lst, list_tup, int_bl, bi_len, bi_tuple, bi_list, bi_int, bi_join, bi_any, bi_all, idx_lst, idx_tup, Lr.sl_lst, Lr.sl_tup, and_t, and_f, or_f, or_t, not_b, neg_i, cond_t, cond_f, rng1, rng2, list_of, part_i, seq_nx, seq_ret, seq_brk, seq_cont, if_t, if_f, own_some, own_val, own_non, sv_some, sv_none, bind_name, start0, Option.bind_some, Option.bind_none, Option.map_some, Option.map_none, List.map_cons, List.map_nil, List.length_cons, List.length_nil, List.replicate, List.cons_append, List.nil_append, List.getElem?_cons_zero, List.getElem?_cons_succ, List.set_cons_zero, List.set_cons_succ, Nat.reduceAdd, Nat.reduceSub, if_true, if_false, Bool.false_eq_true, reduceIte, decide_true, decide_false, Bool.and_self, Bool.and_true, Bool.true_and, Int.reduceLT, Int.reduceNeg, Nat.reduceLeDiff, this]
            have hszp : szOk (x.parts.map fun t => PyData.tuple (stsD t)).length = true := by rw [List.length_map]; exact sz_ok (by omega)
            have ev1 : stsView h [x] = [x.withP (x.parts.map (stsView h))] := by
              show x.view h ++ stsView h [] = _
              rw [view_parts h hxt]; rfl
            have hlc := hlc .none
            simp only [exs, ex, ev, evs, evPart, evIt, sealE, sealIt, rd_val, rd_own, rd_succ, Lr.add_int, Lr.sub_int, fdiv_int, Lr.mod_int, bin_add, bin_sub, bin_mul, bin_fdiv, bin_mod, cmp_eq, cmp_ne, cmp_lt, cmp_le, cmp_gt, cmp_ge, cmp_in, cmp_notin, cmp_isN, cmp_isnotN, Lr.eq_int, Lr.ne_int, Lr.len_lst, Lr.len_tup, tuple_lst, tuple_tup, list_lst, list_tup, int_bl, bi_len, bi_tuple, bi_list, bi_int, bi_join, bi_any, bi_all, idx_lst, idx_tup, Lr.sl_lst, Lr.sl_tup, and_t, and_f, or_f, or_t, not_b, neg_i, cond_t, cond_f, rng1, rng2, list_of, part_i, seq_nx, seq_ret, seq_brk, seq_cont, if_t, if_f, own_some, own_val, own_non, sv_some, sv_none, bind_name, start0, Option.bind_some, Option.bind_none, Option.map_some, Option.map_none, List.map_cons, List.map_nil, List.length_cons, List.length_nil, List.replicate, List.cons_append, List.nil_append, List.getElem?_cons_zero, List.getElem?_cons_succ, List.set_cons_zero, List.set_cons_succ, Nat.reduceAdd, Nat.reduceSub, if_true, if_false, Bool.false_eq_true, reduceIte, decide_true, decide_false, Bool.and_self, Bool.and_true, Bool.true_and, Int.reduceLT, Int.reduceNeg, Nat.reduceLeDiff] at hlc
            cases x with
            | tell a b w => cases hxt
            | choice bs =>
              refine ⟨_, _, rfl, ?_, p, q, .val (Stp.choice bs).d, rfl⟩
              rw [stsView_app, stsD_app, ev1]
              simp only [Stp.parts, Stp.withP, Stp.d, brsD_map, List.map_map] at hlc hszp ⊢
              simp only [exs, ex, ev, evs, evPart, evIt, sealE, sealIt, rd_val, rd_own, rd_succ, Lr.add_int, Lr.sub_int, fdiv_int, Lr.mod_int, bin_add, bin_sub, bin_mul, bin_fdiv, bin_mod, cmp_eq, cmp_ne, cmp_lt, cmp_le, cmp_gt, cmp_ge, cmp_in, cmp_notin, cmp_isN, cmp_isnotN, Lr.eq_int, Lr.ne_int, Lr.len_lst, Lr.len_tup, tuple_lst, tuple_tup, list_lst, list_tup, int_bl, bi_len, bi_tuple, bi_list, bi_int, bi_join, bi_any, bi_all, idx_lst, idx_tup, Lr.sl_lst, Lr.sl_tup, and_t, and_f, or_f, or_t, not_b, neg_i, cond_t, cond_f, rng1, rng2, list_of, part_i, seq_nx, seq_ret, seq_brk, seq_cont, if_t, if_f, own_some, own_val, own_non, sv_some, sv_none, bind_name, start0, Option.bind_some, Option.bind_none, Option.map_some, Option.map_none, List.map_cons, List.map_nil, List.length_cons, List.length_nil, List.replicate, List.cons_append, List.nil_append, List.getElem?_cons_zero, List.getElem?_cons_succ, List.set_cons_zero, List.set_cons_succ, Nat.reduceAdd, Nat.reduceSub, if_true, if_false, Bool.false_eq_true, reduceIte, decide_true, decide_false, Bool.and_self, Bool.and_true, Bool.true_and, Int.reduceLT, Int.reduceNeg, Nat.reduceLeDiff, at0, at1, e_ct, e_cc, seqI_tup, hszp, hlc, tup_d, sz1, sz2, Lr.add_tup, hsz]
              simp only [stsD, Stp.d, brsD_map, List.map_map]
              rfl
            | round u =>
              refine ⟨_, _, rfl, ?_, p, .val (.tuple [.tuple (stsD (stsView h u))]), .val (Stp.round u).d, rfl⟩
              rw [stsView_app, stsD_app, ev1]
              simp only [Stp.parts, Stp.withP, Stp.d, exs, ex, ev, evs, evPart, evIt, sealE, sealIt, rd_val, rd_own, rd_succ, Lr.add_int, Lr.sub_int, fdiv_int, Lr.mod_int, bin_add, bin_sub, bin_mul, bin_fdiv, bin_mod, cmp_eq, cmp_ne, cmp_lt, cmp_le, cmp_gt, cmp_ge, cmp_in, cmp_notin, cmp_isN, cmp_isnotN, Lr.eq_int, Lr.ne_int, Lr.len_lst, Lr.len_tup, tuple_lst, tuple_tup, list_lst, list_tup, int_bl, bi_len, bi_tuple, bi_list, bi_int, bi_join, bi_any, bi_all, idx_lst, idx_tup, Lr.sl_lst, Lr.sl_tup, and_t, and_f, or_f, or_t, not_b, neg_i, cond_t, cond_f, rng1, rng2, list_of, part_i, seq_nx, seq_ret, seq_brk, seq_cont, if_t, if_f, own_some, own_val, own_non, sv_some, sv_none, bind_name, start0, Option.bind_some, Option.bind_none, Option.map_some, Option.map_none, List.map_cons, List.map_nil, List.length_cons, List.length_nil, List.replicate, List.cons_append, List.nil_append, List.getElem?_cons_zero, List.getElem?_cons_succ, List.set_cons_zero, List.set_cons_succ, Nat.reduceAdd, Nat.reduceSub, if_true, if_false, Bool.false_eq_true, reduceIte, decide_true, decide_false, Bool.and_self, Bool.and_true, Bool.true_and, Int.reduceLT, Int.reduceNeg, Nat.reduceLeDiff] at hlc ⊢
              simp only [exs, ex, ev, evs, evPart, evIt, sealE, sealIt, rd_val, rd_own, rd_succ, Lr.add_int, Lr.sub_int, fdiv_int, Lr.mod_int, bin_add, bin_sub, bin_mul, bin_fdiv, bin_mod, cmp_eq, cmp_ne, cmp_lt, cmp_le, cmp_gt, cmp_ge, cmp_in, cmp_notin, cmp_isN, cmp_isnotN, Lr.eq_int, Lr.ne_int, Lr.len_lst, Lr.len_tup, tuple_lst, tuple_tup, list_lst, list_tup, int_bl, bi_len, bi_tuple, bi_list, bi_int, bi_join, bi_any, bi_all, idx_lst, idx_tup, Lr.sl_lst, Lr.sl_tup, and_t, and_f, or_f, or_t, not_b, neg_i, cond_t, cond_f, rng1, rng2, list_of, part_i, seq_nx, seq_ret, seq_brk, seq_cont, if_t, if_f, own_some, own_val, own_non, sv_some, sv_none, bind_name, start0, Option.bind_some, Option.bind_none, Option.map_some, Option.map_none, List.map_cons, List.map_nil, List.length_cons, List.length_nil, List.replicate, List.cons_append, List.nil_append, List.getElem?_cons_zero, List.getElem?_cons_succ, List.set_cons_zero, List.set_cons_succ, Nat.reduceAdd, Nat.reduceSub, if_true, if_false, Bool.false_eq_true, reduceIte, decide_true, decide_false, Bool.and_self, Bool.and_true, Bool.true_and, Int.reduceLT, Int.reduceNeg, Nat.reduceLeDiff, at0, at1, e_rt, e_rc, cut1, cut01, seqI_tup, hlc, tup_d, sz1, sz2, Lr.add_tup, hsz]
              rfl
            | both u v =>
              refine ⟨_, _, rfl, ?_, p, .val (.tuple [.tuple (stsD (stsView h u)), .tuple (stsD (stsView h v))]), .val (Stp.both u v).d, rfl⟩
              rw [stsView_app, stsD_app, ev1]
              simp only [Stp.parts, Stp.withP, Stp.d, exs, ex, ev, evs, evPart, evIt, sealE, sealIt, rd_val, rd_own, rd_succ, Lr.add_int, Lr.sub_int, fdiv_int, Lr.mod_int, bin_add, bin_sub, bin_mul, bin_fdiv, bin_mod, cmp_eq, cmp_ne, cmp_lt, cmp_le, cmp_gt, cmp_ge, cmp_in, cmp_notin, cmp_isN, cmp_isnotN, Lr.eq_int, Lr.ne_int, Lr.len_lst, Lr.len_tup, tuple_lst, tuple_tup, list_lst, list_tup, int_bl, bi_len, bi_tuple, bi_list, bi_int, bi_join, bi_any, bi_all, idx_lst, idx_tup, Lr.sl_lst, Lr.sl_tup, and_t, and_f, or_f, or_t, not_b, neg_i, cond_t, cond_f, rng1, rng2, list_of, part_i, seq_nx, seq_ret, seq_brk, seq_cont, if_t, if_f, own_some, own_val, own_non, sv_some, sv_none, bind_name, start0, Option.bind_some, Option.bind_none, Option.map_some, Option.map_none, List.map_cons, List.map_nil, List.length_cons, List.length_nil, List.replicate, List.cons_append, List.nil_append, List.getElem?_cons_zero, List.getElem?_cons_succ, List.set_cons_zero, List.set_cons_succ, Nat.reduceAdd, Nat.reduceSub, if_true, if_false, Bool.false_eq_true, reduceIte, decide_true, decide_false, Bool.and_self, Bool.and_true, Bool.true_and, Int.reduceLT, Int.reduceNeg, Nat.reduceLeDiff] at hlc ⊢
              simp only [exs, ex, ev, evs, evPart, evIt, sealE, sealIt, rd_val, rd_own, rd_succ, Lr.add_int, Lr.sub_int, fdiv_int, Lr.mod_int, bin_add, bin_sub, bin_mul, bin_fdiv, bin_mod, cmp_eq, cmp_ne, cmp_lt, cmp_le, cmp_gt, cmp_ge, cmp_in, cmp_notin, cmp_isN, cmp_isnotN, Lr.eq_int, Lr.ne_int, Lr.len_lst, Lr.len_tup, tuple_lst, tuple_tup, list_lst, list_tup, int_bl, bi_len, bi_tuple, bi_list, bi_int, bi_join, bi_any, bi_all, idx_lst, idx_tup, Lr.sl_lst, Lr.sl_tup, and_t, and_f, or_f, or_t, not_b, neg_i, cond_t, cond_f, rng1, rng2, list_of, part_i, seq_nx, seq_ret, seq_brk, seq_cont, if_t, if_f, own_some, own_val, own_non, sv_some, sv_none, bind_name, start0, Option.bind_some, Option.bind_none, Option.map_some, Option.map_none, List.map_cons, List.map_nil, List.length_cons, List.length_nil, List.replicate, List.cons_append, List.nil_append, List.getElem?_cons_zero, List.getElem?_cons_succ, List.set_cons_zero, List.set_cons_succ, Nat.reduceAdd, Nat.reduceSub, if_true, if_false, Bool.false_eq_true, reduceIte, decide_true, decide_false, Bool.and_self, Bool.and_true, Bool.true_and, Int.reduceLT, Int.reduceNeg, Nat.reduceLeDiff, at0, at1, e_bt, e_bc, cut1, cut01, seqI_tup, hlc, tup_d, sz1, sz2, sz3, Lr.add_tup, hsz]
              rfl)
    obtain ⟨p, q, x, rfl⟩ := hR
    refine call_at hT rfl ?_
    have hsz : szOk (stsD s).length = true := by rw [stsD_len]; exact sz_ok (by omega)
    rw [← stsD_map] at hf
    simp only [d_law_view, exs, ex, ev, evs, evPart, evIt, sealE, sealIt, rd_val, rd_own, rd_succ, Lr.add_int, Lr.sub_int, fdiv_int, Lr.mod_int, bin_add, bin_sub, bin_mul, bin_fdiv, bin_mod, cmp_eq, cmp_ne, cmp_lt, cmp_le, cmp_gt, cmp_ge, cmp_in, cmp_notin, cmp_isN, cmp_isnotN, Lr.eq_int, Lr.ne_int, Lr.len_lst, Lr.len_tup, tuple_lst, tuple_tup, list_lst, list_tup, int_bl, bi_len, bi_tuple, bi_list, bi_int, bi_join, bi_any, bi_all, idx_lst, idx_tup, Lr.sl_lst, Lr.sl_tup, and_t, and_f, or_f, or_t, not_b, neg_i, cond_t, cond_f, rng1, rng2, list_of, part_i, seq_nx, seq_ret, seq_brk, seq_cont, if_t, if_f, own_some, own_val, own_non, sv_some, sv_none, bind_name, start0, Option.bind_some, Option.bind_none, Option.map_some, Option.map_none, List.map_cons, List.map_nil, List.length_cons, List.length_nil, List.replicate, List.cons_append, List.nil_append, List.getElem?_cons_zero, List.getElem?_cons_succ, List.set_cons_zero, List.set_cons_succ, Nat.reduceAdd, Nat.reduceSub, if_true, if_false, Bool.false_eq_true, reduceIte, decide_true, decide_false, Bool.and_self, Bool.and_true, Bool.true_and, Int.reduceLT, Int.reduceNeg, Nat.reduceLeDiff, tup_d, sz0, seqI_tup, hsz]
    simp only [exs, ex, ev, evs, evPart, evIt, sealE, sealIt, rd_val, rd_own, rd_succ, Lr.add_int, Lr.sub_int, fdiv_int, Lr.mod_int, bin_add, bin_sub, bin_mul, bin_fdiv, bin_mod, cmp_eq, cmp_ne, cmp_lt, cmp_le, cmp_gt, cmp_ge, cmp_in, cmp_notin, cmp_isN, cmp_isnotN, Lr.eq_int, Lr.ne_int, Lr.len_lst, Lr.len_tup, tuple_lst, tuple_tup, list_lst, list_tup, int_bl, bi_len, bi_tuple, bi_list, bi_int, bi_join, bi_any, bi_all, idx_lst, idx_tup, Lr.sl_lst, Lr.sl_tup, and_t, and_f, or_f, or_t, not_b, neg_i, cond_t, cond_f, rng1, rng2, list_of, part_i, seq_nx, seq_ret, seq_brk, seq_cont, if_t, if_f, own_some, own_val, own_non, sv_some, sv_none, bind_name, start0, Option.bind_some, Option.bind_none, Option.map_some, Option.map_none, List.map_cons, List.map_nil, List.length_cons, List.length_nil, List.replicate, List.cons_append, List.nil_append, List.getElem?_cons_zero, List.getElem?_cons_succ, List.set_cons_zero, List.set_cons_succ, Nat.reduceAdd, Nat.reduceSub, if_true, if_false, Bool.false_eq_true, reduceIte, decide_true, decide_false, Bool.and_self, Bool.and_true, Bool.true_and, Int.reduceLT, Int.reduceNeg, Nat.reduceLeDiff, tup_d, sz1, sz2] at hf
    rw [hf]
    simp only [exs, ex, ev, evs, evPart, evIt, sealE, sealIt, rd_val, rd_own, rd_succ, Lr.add_int, Lr.sub_int, fdiv_int, Lr.mod_int, bin_add, bin_sub, bin_mul, bin_fdiv, bin_mod, cmp_eq, cmp_ne, cmp_lt, cmp_le, cmp_gt, cmp_ge, cmp_in, cmp_notin, cmp_isN, cmp_isnotN, Lr.eq_int, Lr.ne_int, Lr.len_lst, Lr.len_tup, tuple_lst, tuple_tup, list_lst, list_tup, int_bl, bi_len, bi_tuple, bi_list, bi_int, bi_join, bi_any, bi_all, idx_lst, idx_tup, Lr.sl_lst, Lr.sl_tup, and_t, and_f, or_f, or_t, not_b, neg_i, cond_t, cond_f, rng1, rng2, list_of, part_i, seq_nx, seq_ret, seq_brk, seq_cont, if_t, if_f, own_some, own_val, own_non, sv_some, sv_none, bind_name, start0, Option.bind_some, Option.bind_none, Option.map_some, Option.map_none, List.map_cons, List.map_nil, List.length_cons, List.length_nil, List.replicate, List.cons_append, List.nil_append, List.getElem?_cons_zero, List.getElem?_cons_succ, List.set_cons_zero, List.set_cons_succ, Nat.reduceAdd, Nat.reduceSub, if_true, if_false, Bool.false_eq_true, reduceIte, decide_true, decide_false, Bool.and_self, Bool.and_true, Bool.true_and, Int.reduceLT, Int.reduceNeg, Nat.reduceLeDiff]
end
end Lr
namespace Lr
open PySem PySem.Spec PyProof.Rows L2
/-! ### evaluation from outside in -/
theorem and_tt {o : Option PyData} {b : Bool} (h : o = some (.bool b)) : andD (.bool true) o = some (.bool b) := by rw [h]; rfl
theorem and_t' {o : Option PyData} : andD (.bool true) o = o.bind fun d => match d with | .bool b => some (.bool b) | _ => none := by
  cases o with
  | none => rfl
  | some d => cases d <;> rfl
theorem or_f' {o : Option PyData} : orD (.bool false) o = o.bind fun d => match d with | .bool b => some (.bool b) | _ => none := by
  cases o with
  | none => rfl
  | some d => cases d <;> rfl
theorem blo {b : Bool} : (match (PyData.bool b) with | .bool b => some (PyData.bool b) | _ => none) = some (.bool b) := rfl
theorem chain_f {y : PyData} {op : Cop} {z : Option PyData} : chainD y op z false = some (.bool false) := rfl
theorem chain_t {y : PyData} {op : Cop} {z : Option PyData} : chainD y op z true = z.bind fun z => (cmpEv op y z).map .bool := rfl
theorem cmpl {d e : PyData} : cmpEv .lt d e = ltEv d e := rfl
theorem bi_index {ds : List PyData} : biEv .index ds = indexEv ds := rfl
theorem bi_sorted {ds : List PyData} : biEv .sorted ds = sortedEv ds := rfl
theorem bi_min1 {ds : List PyData} : biEv .min1 ds = min1Ev ds := rfl
theorem bi_max1 {ds : List PyData} : biEv .max1 ds = max1Ev ds := rfl
theorem bi_max2 {ds : List PyData} : biEv .max2 ds = max2Ev ds := rfl
theorem bi_abs {ds : List PyData} : biEv .abs ds = absEv ds := rfl
theorem bi_sum {ds : List PyData} : biEv .sum ds = sumEv ds := rfl
theorem bi_split {ds : List PyData} : biEv .split ds = splitEv ds := rfl
theorem bnd2 {ρ : Rho} {i j : Nat} {a b : PyData} : bindT ρ (.tup [i, j]) (.tuple [a, b]) = some ((ρ.set i (.val a)).set j (.val b)) := rfl
theorem bnd2l {ρ : Rho} {i j : Nat} {a b : PyData} : bindT ρ (.tup [i, j]) (.list [a, b]) = some ((ρ.set i (.val a)).set j (.val b)) := rfl
theorem bnd3 {ρ : Rho} {i j k : Nat} {a b c : PyData} : bindT ρ (.tup [i, j, k]) (.tuple [a, b, c]) = some (((ρ.set i (.val a)).set j (.val b)).set k (.val c)) := rfl
theorem set2 {ρ : Rho} {i j : Nat} {a b : PyData} : setAll ρ [i, j] [a, b] = (ρ.set i (.val a)).set j (.val b) := rfl
theorem set3 {ρ : Rho} {i j k : Nat} {a b c : PyData} : setAll ρ [i, j, k] [a, b, c] = ((ρ.set i (.val a)).set j (.val b)).set k (.val c) := rfl
theorem abs_i {i : Int} : absEv [.int i] = some (.int (if i < 0 then -i else i)) := rfl
theorem max2_i {i j : Int} : max2Ev [.int i, .int j] = some (.int (if j > i then j else i)) := rfl
theorem lt_i {i j : Int} : ltEv (.int i) (.int j) = some (decide (i < j)) := rfl
theorem gt_i {i j : Int} : gtEv (.int i) (.int j) = some (decide (j < i)) := rfl
theorem le_i {i j : Int} : leEv (.int i) (.int j) = some (decide (i ≤ j)) := rfl
theorem ge_i {i j : Int} : geEv (.int i) (.int j) = some (decide (j ≤ i)) := rfl
theorem ints_map {α : Type} (f : α → Int) : ∀ xs : List α, intsD (xs.map fun x => .int (f x)) = some (xs.map f)
  | [] => rfl
  | x :: xs => by rw [List.map_cons]; unfold intsD; rw [ints_map f xs]; rfl
theorem sum_ints {α : Type} (f : α → Int) (xs : List α) : sumEv [.list (xs.map fun x => .int (f x))] = some (.int (xs.map f).sum) := by
  show (intsD _).map _ = _
  rw [ints_map f xs]; rfl
theorem mm_ints : ∀ ns : List Int, mmOk (ns.map .int) = true := by
  intro ns
  have d0 : PyData.depthAll (ns.map PyData.int) = 0 := by
    induction ns with
    | nil => rfl
    | cons n ns ih => rw [List.map_cons]; unfold PyData.depthAll; rw [ih]; rfl
  unfold mmOk allAlikeB
  rw [d0]
  simp [isNoneD, PySem.W.alike]
theorem min_ints (n : Int) (ns : List Int) : min1Ev [.list ((n :: ns).map .int)] = some (.int (ns.foldl min n)) := by
  show (if mmOk (.int n :: ns.map .int) = true then some (PySem.W.minD (.int n) (ns.map .int)) else none) = _
  rw [if_pos (show mmOk (.int n :: ns.map .int) = true from mm_ints (n :: ns)), PySem.W.minD_ints]
theorem max_ints (n : Int) (ns : List Int) : max1Ev [.list ((n :: ns).map .int)] = some (.int (ns.foldl max n)) := by
  show (if mmOk (.int n :: ns.map .int) = true then some (PySem.W.maxD (.int n) (ns.map .int)) else none) = _
  rw [if_pos (show mmOk (.int n :: ns.map .int) = true from mm_ints (n :: ns)), PySem.W.maxD_ints]
theorem ints_strs : ∀ zs : List Str, strsD (zs.map .str) = some zs
  | [] => rfl
  | x :: xs => by rw [List.map_cons]; unfold strsD; rw [ints_strs xs]; rfl
theorem index_hs {z : Str} {hs : List Str} (h : z ∈ hs) : indexEv [hsD hs, .str z] = some (.int (hs.idxOf z : Nat)) := by
  show (strsD (hs.map .str)).bind _ = _
  rw [ints_strs]
  show (if z ∈ hs then _ else _) = _
  rw [if_pos h]
theorem lvl {m k : Nat} (h : m ≤ k) : ∃ j, k = j + m := ⟨k - m, by omega⟩
theorem for_nil {tg : Tgt} {body : Rho → Option Out} {ρ : Rho} : forRun tg body [] ρ = some (.nx ρ) := rfl
/-- one statement at a time -/
theorem stp {c : Cfg} {ρ ρ' : Rho} {s : S} {r : Ss} {o : Option Out} (h : ex c ρ s = some (.nx ρ')) (h2 : exs c ρ' r = o) : exs c ρ (.cons s r) = o := by
  show (ex c ρ s).bind _ = o
  rw [h]; exact h2
theorem stp_ret {c : Cfg} {ρ : Rho} {s : S} {r : Ss} {d : PyData} (h : ex c ρ s = some (.ret d)) : exs c ρ (.cons s r) = some (.ret d) := by
  show (ex c ρ s).bind _ = _
  rw [h]; rfl
/-! ### outcomes -/
def Sat (o : Option Out) (P : Out → Prop) : Prop := ∃ o', o = some o' ∧ P o'
theorem sat_some {o : Out} {P : Out → Prop} : Sat (some o) P = P o := propext ⟨fun ⟨o', h, p⟩ => by cases h; exact p, fun p => ⟨o, rfl, p⟩⟩
theorem sat_ret {o : Option Out} {d : PyData} : Sat o (fun o => o = .ret d) = (o = some (.ret d)) := propext ⟨fun ⟨o', h, p⟩ => by rw [h, p], fun p => ⟨_, p, rfl⟩⟩
/-- what a turn of a loop comes to: on (N), or out of it (E) -/
def LoopO (N : Rho → Prop) (E : Out → Prop) : Out → Prop
  | .nx ρ => N ρ
  | .cont ρ => N ρ
  | .brk ρ => E (.nx ρ)
  | .ret d => E (.ret d)
theorem lo_nx {N : Rho → Prop} {E : Out → Prop} {ρ : Rho} : LoopO N E (.nx ρ) = N ρ := rfl
theorem lo_cont {N : Rho → Prop} {E : Out → Prop} {ρ : Rho} : LoopO N E (.cont ρ) = N ρ := rfl
theorem lo_brk {N : Rho → Prop} {E : Out → Prop} {ρ : Rho} : LoopO N E (.brk ρ) = E (.nx ρ) := rfl
theorem lo_ret {N : Rho → Prop} {E : Out → Prop} {d : PyData} : LoopO N E (.ret d) = E (.ret d) := rfl
def NoO : Out → Prop := fun _ => False
theorem for_ex {α : Type} {tg : Tgt} {body : Rho → Option Out} {e : α → PyData} {K : Out → Option Out} {P : Out → Prop} {ρ : Rho} (xs : List α) (R : List α → Rho → Prop) (E : Out → Prop) (h0 : R [] ρ)
    (st : ∀ pre x post ρ, xs = pre ++ x :: post → R pre ρ → Sat ((bindT ρ tg (e x)).bind body) (LoopO (R (pre ++ [x])) E)) (fin : ∀ ρ', R xs ρ' → Sat (K (.nx ρ')) P) (ex : ∀ o, E o → Sat (K o) P) : Sat ((forRun tg body (xs.map e) ρ).bind K) P := by
  have key : ∀ (post pre : List α) (ρ : Rho), xs = pre ++ post → R pre ρ → Sat ((forRun tg body (post.map e) ρ).bind K) P := by
    intro post
    induction post with
    | nil => intro pre ρ hx h; exact fin ρ (by rw [hx, List.append_nil]; exact h)
    | cons x post ih =>
      intro pre ρ hx h
      obtain ⟨o, h1, h2⟩ := st pre x post ρ hx h
      obtain ⟨ρ1, h3, h4⟩ := Option.bind_eq_some_iff.mp h1
      rw [List.map_cons]
      unfold forRun
      rw [h3]
      show Sat (((body ρ1).bind (loopD (forRun tg body (post.map e)))).bind K) P
      rw [h4]
      cases o with
      | nx ρ' => exact ih (pre ++ [x]) ρ' (by rw [hx]; simp) h2
      | cont ρ' => exact ih (pre ++ [x]) ρ' (by rw [hx]; simp) h2
      | brk ρ' => exact ex _ h2
      | ret d => exact ex _ h2
  exact key xs [] ρ rfl h0
theorem for_go {α : Type} {tg : Tgt} {body : Rho → Option Out} {e : α → PyData} {K : Out → Option Out} {P : Out → Prop} {ρ : Rho} (xs : List α) (R : List α → Rho → Prop) (h0 : R [] ρ)
    (st : ∀ pre x post ρ, xs = pre ++ x :: post → R pre ρ → Sat ((bindT ρ tg (e x)).bind body) (LoopO (R (pre ++ [x])) NoO)) (fin : ∀ ρ', R xs ρ' → Sat (K (.nx ρ')) P) : Sat ((forRun tg body (xs.map e) ρ).bind K) P :=
  for_ex xs R NoO h0 st fin fun _ h => h.elim
theorem for_ret {α : Type} {tg : Tgt} {body : Rho → Option Out} {e : α → PyData} {K : Out → Option Out} {d : PyData} {ρ : Rho} (xs : List α) (R : List α → Rho → Prop) (h0 : R [] ρ)
    (st : ∀ pre x post ρ, xs = pre ++ x :: post → R pre ρ → Sat ((bindT ρ tg (e x)).bind body) (LoopO (R (pre ++ [x])) NoO)) (fin : ∀ ρ', R xs ρ' → K (.nx ρ') = some (.ret d)) : (forRun tg body (xs.map e) ρ).bind K = some (.ret d) := by
  have := for_go (P := fun o => o = .ret d) xs R h0 st fun ρ' h => by rw [sat_ret]; exact fin ρ' h
  rw [sat_ret] at this
  exact this
/-- the while loop -/
theorem stp_sat {c : Cfg} {ρ ρ' : Rho} {s : S} {r : Ss} {P : Out → Prop} (h : ex c ρ s = some (.nx ρ')) (h2 : Sat (exs c ρ' r) P) : Sat (exs c ρ (.cons s r)) P := by
  rw [show exs c ρ (.cons s r) = exs c ρ' r from stp h rfl]; exact h2
theorem while_go {co : Rho → Option PyData} {body : Rho → Option Out} {K : Out → Option Out} {P : Out → Prop} (R : Nat → Rho → Prop) (E : Out → Prop)
    (st : ∀ m ρ, R m ρ → (co ρ = some (.bool false) ∧ E (.nx ρ)) ∨ (co ρ = some (.bool true) ∧ 0 < m ∧ Sat (body ρ) (LoopO (R (m - 1)) E))) (ex : ∀ o, E o → Sat (K o) P) : ∀ (n m : Nat) (ρ : Rho), m < n → R m ρ → Sat ((whileRun co body n ρ).bind K) P
  | 0, m, ρ, h, _ => absurd h (Nat.not_lt_zero _)
  | n + 1, m, ρ, h, r => by
    unfold whileRun
    rcases st m ρ r with ⟨h1, h2⟩ | ⟨h1, h0, o, h2, h3⟩
    · rw [h1]; exact ex _ h2
    · rw [h1]
      show Sat (((body ρ).bind (loopD (whileRun co body n))).bind K) P
      rw [h2]
      cases o with
      | nx ρ' => exact while_go R E st ex n (m - 1) ρ' (by omega) h3
      | cont ρ' => exact while_go R E st ex n (m - 1) ρ' (by omega) h3
      | brk ρ' => exact ex _ h3
      | ret d => exact ex _ h3
/-! ### by the syntax, one statement at a time -/
def Ss.app : Ss → Ss → Ss
  | .nil, t => t
  | .cons s r, t => .cons s (r.app t)
theorem exs_app {c : Cfg} : ∀ (a : Ss) {b : Ss} {ρ : Rho}, exs c ρ (a.app b) = (exs c ρ a).bind (seqD fun ρ' => exs c ρ' b)
  | .nil, b, ρ => rfl
  | .cons s r, b, ρ => by
    show (ex c ρ s).bind (seqD fun ρ' => exs c ρ' (r.app b)) = ((ex c ρ s).bind (seqD fun ρ' => exs c ρ' r)).bind (seqD fun ρ' => exs c ρ' b)
    cases ex c ρ s with
    | none => rfl
    | some o => cases o with
      | nx ρ' => exact exs_app r
      | _ => rfl
section
variable {c : Cfg} {ρ ρ' : Rho} {s : S} {r : Ss} {P : Out → Prop} {d : PyData}
theorem call_sat {T : Str → Option Df} {g : Str → Option PyData} {fu k : Nat} {f : Str} {df : Df} {xs : List PyData} (hT : T f = some df) (h1 : xs.length = df.ar) (h2 : Sat (exs ⟨callAt T g fu k, fu, g⟩ (start0 df xs) df.body) fun o => o = .ret d) : callAt T g fu (k + 1) f xs = some d := by
  rw [sat_ret] at h2
  exact call_at hT h1 h2
theorem end_sat (h : P (.nx ρ)) : Sat (exs c ρ .nil) P := ⟨_, rfl, h⟩
theorem ret_sat {e : Ex} (h : ev false c (sealE ρ e) e = some d) (hP : P (.ret d)) : Sat (exs c ρ (.cons (.ret e) r)) P := by
  refine ⟨.ret d, ?_, hP⟩
  show ((ev false c (sealE ρ e) e).bind _).bind _ = _
  rw [h]; rfl
theorem brk_sat (hP : P (.brk ρ)) : Sat (exs c ρ (.cons .brk r)) P := ⟨_, rfl, hP⟩
theorem cont_sat (hP : P (.cont ρ)) : Sat (exs c ρ (.cons .cont r)) P := ⟨_, rfl, hP⟩
theorem ife_t {co : Ex} {a b : Ss} (h : ev true c ρ co = some (.bool true)) (h2 : Sat (exs c ρ (a.app r)) P) : Sat (exs c ρ (.cons (.ife co a b) r)) P := by
  rw [exs_app] at h2
  show Sat (((ev true c ρ co).bind _).bind _) P
  rw [h]; exact h2
theorem ife_f {co : Ex} {a b : Ss} (h : ev true c ρ co = some (.bool false)) (h2 : Sat (exs c ρ (b.app r)) P) : Sat (exs c ρ (.cons (.ife co a b) r)) P := by
  rw [exs_app] at h2
  show Sat (((ev true c ρ co).bind _).bind _) P
  rw [h]; exact h2
theorem ife_b {co : Ex} {a b : Ss} {k : Bool} (h : ev true c ρ co = some (.bool k)) (h1 : k = true → Sat (exs c ρ (a.app r)) P) (h2 : k = false → Sat (exs c ρ (b.app r)) P) : Sat (exs c ρ (.cons (.ife co a b) r)) P := by
  cases k with
  | true => exact ife_t h (h1 rfl)
  | false => exact ife_f h (h2 rfl)
theorem for_stp {α : Type} {tg : Tgt} {it : Itx} {body : Ss} {e : α → PyData} {xs : List α} (hi : evIt false c (sealIt ρ it) it = some (xs.map e)) (R : List α → Rho → Prop) (E : Out → Prop) (h0 : R [] (sealIt ρ it))
    (st : ∀ pre x post ρ, xs = pre ++ x :: post → R pre ρ → ∃ ρ1, bindT ρ tg (e x) = some ρ1 ∧ Sat (exs c ρ1 body) (LoopO (R (pre ++ [x])) E)) (fin : ∀ ρ', R xs ρ' → Sat (exs c ρ' r) P) (ex : ∀ d, E (.ret d) → P (.ret d)) (ex2 : ∀ ρ', E (.nx ρ') → Sat (exs c ρ' r) P) : Sat (exs c ρ (.cons (.for_ tg it body) r)) P := by
  show Sat (((evIt false c (sealIt ρ it) it).bind _).bind _) P
  rw [hi]
  refine for_ex (K := seqD fun ρ' => exs c ρ' r) xs R (fun o => E o ∧ ((∃ d, o = .ret d) ∨ ∃ ρ', o = .nx ρ')) h0 (fun pre x post ρ hx hR => ?_) (fun ρ' h => fin ρ' h) (fun o ⟨h, h2⟩ => ?_)
  · obtain ⟨ρ1, h1, o, h2, h3⟩ := st pre x post ρ hx hR
    rw [h1]
    refine ⟨o, h2, ?_⟩
    cases o with
    | nx ρ' => exact h3
    | cont ρ' => exact h3
    | brk ρ' => exact ⟨h3, .inr ⟨_, rfl⟩⟩
    | ret d => exact ⟨h3, .inl ⟨_, rfl⟩⟩
  · rcases h2 with ⟨d, rfl⟩ | ⟨ρ', rfl⟩
    · exact ⟨_, rfl, ex d h⟩
    · exact ex2 ρ' h
theorem for_all {α : Type} {tg : Tgt} {it : Itx} {body : Ss} {e : α → PyData} {xs : List α} (hi : evIt false c (sealIt ρ it) it = some (xs.map e)) (R : List α → Rho → Prop) (h0 : R [] (sealIt ρ it))
    (st : ∀ pre x post ρ, xs = pre ++ x :: post → R pre ρ → ∃ ρ1, bindT ρ tg (e x) = some ρ1 ∧ Sat (exs c ρ1 body) (LoopO (R (pre ++ [x])) NoO)) (fin : ∀ ρ', R xs ρ' → Sat (exs c ρ' r) P) : Sat (exs c ρ (.cons (.for_ tg it body) r)) P :=
  for_stp hi R NoO h0 st fin (fun _ h => h.elim) fun _ h => h.elim
theorem while_stp {co : Ex} {body : Ss} (R : Nat → Rho → Prop) (E : Out → Prop) {m : Nat} (hm : m < c.fuel) (h0 : R m ρ)
    (st : ∀ m ρ, R m ρ → (ev true c ρ co = some (.bool false) ∧ E (.nx ρ)) ∨ (ev true c ρ co = some (.bool true) ∧ 0 < m ∧ Sat (exs c ρ body) (LoopO (R (m - 1)) E))) (ex : ∀ d, E (.ret d) → P (.ret d)) (ex2 : ∀ ρ', E (.nx ρ') → Sat (exs c ρ' r) P) : Sat (exs c ρ (.cons (.while_ co body) r)) P := by
  show Sat ((whileRun (fun ρ' => ev true c ρ' co) (fun ρ' => exs c ρ' body) c.fuel ρ).bind _) P
  refine while_go (K := seqD fun ρ' => exs c ρ' r) R (fun o => E o ∧ ((∃ d, o = .ret d) ∨ ∃ ρ', o = .nx ρ')) (fun m ρ h => ?_) (fun o ⟨h, h2⟩ => ?_) c.fuel m ρ hm h0
  · rcases st m ρ h with ⟨h1, h2⟩ | ⟨h1, h2, o, h3, h4⟩
    · exact .inl ⟨h1, h2, .inr ⟨_, rfl⟩⟩
    · refine .inr ⟨h1, h2, o, h3, ?_⟩
      cases o with
      | nx ρ' => exact h4
      | cont ρ' => exact h4
      | brk ρ' => exact ⟨h4, .inr ⟨_, rfl⟩⟩
      | ret d => exact ⟨h4, .inl ⟨_, rfl⟩⟩
  · rcases h2 with ⟨d, rfl⟩ | ⟨ρ', rfl⟩
    · exact ⟨_, rfl, ex d h⟩
    · exact ex2 ρ' h
end
end Lr
namespace Lr
open PySem PySem.Spec PyProof.Rows L2
/-! ### any plain data of a known size -/
def Gd (L : Nat) : Nat → PyData → Prop
  | _, .none => True
  | _, .bool _ => True
  | _, .int _ => True
  | _, .str z => PyData.strOk z = true ∧ z.length ≤ 1000
  | m + 1, .tuple ds => ds.length ≤ L ∧ ∀ d ∈ ds, Gd L m d
  | m + 1, .list ds => ds.length ≤ L ∧ ∀ d ∈ ds, Gd L m d
  | _, _ => False
theorem Gd.mono {L L' : Nat} (hL : L ≤ L') : ∀ {m n : Nat} {d : PyData}, m ≤ n → Gd L m d → Gd L' n d
  | m, n, .none, _, _ => by unfold Gd; trivial
  | m, n, .bool _, _, _ => by unfold Gd; trivial
  | m, n, .int _, _, _ => by unfold Gd; trivial
  | m, n, .str z, _, h => by unfold Gd at h ⊢; exact h
  | 0, n, .tuple ds, _, h => by unfold Gd at h; exact h.elim
  | 0, n, .list ds, _, h => by unfold Gd at h; exact h.elim
  | m + 1, 0, _, hm, _ => absurd hm (by omega)
  | m + 1, n + 1, .tuple ds, hm, h => by
    unfold Gd at h ⊢
    exact ⟨Nat.le_trans h.1 hL, fun d hd => Gd.mono hL (by omega) (h.2 d hd)⟩
  | m + 1, n + 1, .list ds, hm, h => by
    unfold Gd at h ⊢
    exact ⟨Nat.le_trans h.1 hL, fun d hd => Gd.mono hL (by omega) (h.2 d hd)⟩
  | m, n, .dict _, _, h => by unfold Gd at h; exact h.elim
theorem gd_tup {L m : Nat} {ds : List PyData} (h : Gd L m (.tuple ds)) : ∃ n, m = n + 1 ∧ ds.length ≤ L ∧ ∀ d ∈ ds, Gd L n d := by
  cases m with
  | zero => unfold Gd at h; exact h.elim
  | succ n => unfold Gd at h; exact ⟨n, rfl, h⟩
theorem Gd.lay {L : Nat} : ∀ {m : Nat} {d : PyData}, Gd L m d → Lay m d
  | m, .none, _ => ⟨rfl, Nat.zero_le _⟩
  | m, .bool _, _ => ⟨rfl, Nat.zero_le _⟩
  | m, .int _, _ => ⟨rfl, Nat.zero_le _⟩
  | m, .str z, h => by unfold Gd at h; exact ⟨by unfold PyData.canLay0; exact h.1, Nat.zero_le _⟩
  | 0, .tuple ds, h => by unfold Gd at h; exact h.elim
  | 0, .list ds, h => by unfold Gd at h; exact h.elim
  | m + 1, .tuple ds, h => by unfold Gd at h; exact lay_tup fun d hd => (h.2 d hd).lay
  | m + 1, .list ds, h => by unfold Gd at h; exact lay_lst fun d hd => (h.2 d hd).lay
  | m, .dict _, h => by unfold Gd at h; exact h.elim
/-! ### what is asked -/
noncomputable section
def nameB : PyData → Bool
  | .str z => decide (NameOk z)
  | _ => false
def handB (hs : List Str) : PyData → Bool
  | .str z => decide (z ∈ hs)
  | _ => false
def stepsBy (F : PyData → Bool) : PyData → Bool
  | .tuple ds => decide (ds.length ≤ 4) && ds.all F
  | _ => false
def partsBy (F : PyData → Bool) : PyData → Bool
  | .tuple ps => decide (1 ≤ ps.length ∧ ps.length ≤ 3) && ps.all (stepsBy F)
  | _ => false
def tellB (hs : List Str) : List PyData → Bool
  | [a, b, c] => handB hs a && (handB hs b && nameB c)
  | _ => false
def oneBy (G : PyData → Bool) : List PyData → Bool
  | [p] => G p
  | _ => false
def twoBy (G : PyData → Bool) : List PyData → Bool
  | [p, q] => G p && G q
  | _ => false
def frameB (F : PyData → Bool) (w : Str) (r : List PyData) : Bool :=
  if w = "choice" then oneBy (partsBy F) r else if w = "round" then oneBy (stepsBy F) r else if w = "both" then twoBy (stepsBy F) r else false
def stepW (hs : List Str) (F : Option (PyData → Bool)) : PyData → Bool
  | .tuple (.str w :: r) => if w = "tell" then tellB hs r else match F with
    | some F => frameB F w r
    | none => false
  | _ => false
def stepB (hs : List Str) : Nat → PyData → Bool
  | 0 => stepW hs none
  | n + 1 => stepW hs (some (stepB hs n))
def strs0 : List PyData → List Str
  | [] => []
  | .str z :: r => z :: strs0 r
  | _ :: r => strs0 r
def talkB : PyData → Bool
  | .tuple [.tuple hs, p] => decide (1 ≤ hs.length ∧ hs.length ≤ 4) && (hs.all nameB && (decide (cntN (strs0 hs) hs.length = hs.length) && stepsBy (stepB (strs0 hs) 3) p))
  | _ => false
end
/-! ### names -/
theorem bools_map {α : Type} (p : α → Bool) : ∀ xs : List α, bools (xs.map fun x => .bool (p x)) = some (xs.map p)
  | [] => rfl
  | x :: xs => by rw [List.map_cons]; unfold bools; rw [bools_map p xs]; rfl
theorem all_map {α : Type} (p : α → Bool) (xs : List α) : allEv [.list (xs.map fun x => .bool (p x))] = some (.bool (xs.all p)) := by
  show (bools _).map _ = _
  rw [bools_map]
  simp [List.all_map]
theorem isi_t {ds : List PyData} : isiEv .tuple (.tuple ds) = true := rfl
theorem isi_s {z : Str} : isiEv .str (.str z) = true := rfl
theorem eqnil {m : Nat} {ds : List PyData} (h : Lay m (.list ds)) (hm : m ≤ 64) : eqEv (.list ds) (.list []) = some ds.isEmpty := by
  unfold eqEv
  rw [h.shaped hm]
  cases ds <;> rfl
theorem nenil {m : Nat} {ds : List PyData} (h : Lay m (.list ds)) (hm : m ≤ 64) : neEv (.list ds) (.list []) = some !ds.isEmpty := by
  unfold neEv
  rw [h.shaped hm]
  cases ds <;> rfl
theorem filt_empty {α β : Type} (p : α → Bool) (f : α → β) (xs : List α) : ((xs.filter fun x => !p x).map f).isEmpty = xs.all p := by
  induction xs with
  | nil => rfl
  | cons x r ih =>
    rw [List.filter_cons, List.all_cons]
    cases p x with
    | true => simpa using ih
    | false => simp
theorem eq_str {x y : Str} (hx : PyData.strOk x = true) (hy : PyData.strOk y = true) : eqEv (.str x) (.str y) = some (decide (x = y)) := by
  unfold eqEv
  rw [(lay_kw x hx).shaped (Nat.zero_le _), (lay_kw y hy).shaped (Nat.zero_le _), eqv_str]
  rfl
theorem isin_strs {z : Str} {hs : List Str} (hz : PyData.strOk z = true) (h : ∀ x ∈ hs, NameOk x) : isinEv (.str z) (hsD hs) = some (decide (z ∈ hs)) := by
  have s1 := (lay_kw z hz).shaped (Nat.zero_le _)
  have s2 := shaped_hs h
  unfold hsD at s2 ⊢
  show (if SeqAt.shaped (.str z) && SeqAt.shaped (.tuple (hs.map PyData.str)) then some ((hs.map PyData.str).any fun y => PyData.eqv y (.str z)) else none) = _
  rw [s1, s2, any_strs]
  rfl
theorem mem_letters {c : Nat} : (c ∈ (Str.ofString "abcdefghijklmnopqrstuvwxyz").cps.toList) ↔ 97 ≤ c ∧ c ≤ 122 := by
  have e : (Str.ofString "abcdefghijklmnopqrstuvwxyz").cps.toList = [97,98,99,100,101,102,103,104,105,106,107,108,109,110,111,112,113,114,115,116,117,118,119,120,121,122] := by decide +kernel
  rw [e]
  simp only [List.mem_cons, List.not_mem_nil, or_false]
  omega
section
variable {T : Tab} {g : Str → Option PyData} {fu : Nat}
structure Glob (g : Str → Option PyData) : Prop where
  lets : g "LETTERS" = some (.str "abcdefghijklmnopqrstuvwxyz")
  longest : g "LONGEST" = some (.int 5)
  hands : g "MOST_HANDS" = some (.int 4)
  steps : g "MOST_STEPS" = some (.int 4)
  branches : g "MOST_BRANCHES" = some (.int 3)
theorem not_str {d : PyData} (h : ∀ z, d ≠ .str z) : isiEv .str d = false := by cases d <;> first | rfl | exact absurd rfl (h _)
theorem nameB_no {d : PyData} (h : isiEv .str d = false) : nameB d = false := by cases d <;> first | rfl | cases h
theorem isname_ok (hT : T "is_name" = some d_is_name) (G : Glob g) {L m k : Nat} {d : PyData} (hd : Gd L m d) (hk : 1 ≤ k) : callAt T g fu k "is_name" [d] = some (.bool (nameB d)) := by
  obtain ⟨k, rfl⟩ := lvl hk
  refine call_sat hT rfl (ret_sat ?_ rfl)
  by_cases hs : ∃ z, d = .str z
  · obtain ⟨z, rfl⟩ := hs
    unfold Gd at hd
    have hz : szOk z.length = true := sz_ok (by omega)
    have hl : ∀ c : Nat, isinEv (.str ⟨#[c]⟩) (.str "abcdefghijklmnopqrstuvwxyz") = some (decide (97 ≤ c ∧ c ≤ 122)) := fun c => by
      show some (decide _) = _
      congr 1
      exact decide_eq_decide.mpr mem_letters
    have e : lcRun (fun d => some (some (PyData.bool (match d with | .str ⟨⟨[c]⟩⟩ => decide (97 ≤ c ∧ c ≤ 122) | _ => false)))) (signs z) = some (z.cps.toList.map fun c => .bool (decide (97 ≤ c ∧ c ≤ 122))) := lcRun_map fun c _ => rfl
    have e2 : ∀ f : PyData → Option (Option PyData), (∀ c : Nat, f (.str ⟨#[c]⟩) = some (some (.bool (decide (97 ≤ c ∧ c ≤ 122))))) → lcRun f (signs z) = some (z.cps.toList.map fun c => .bool (decide (97 ≤ c ∧ c ≤ 122))) := fun f hf => lcRun_map fun c _ => hf c
    simp only [d_is_name, cmpl, exs, ex, ev, evs, evPart, evIt, sealE, sealIt, rd_val, rd_own, rd_succ, Lr.add_int, Lr.sub_int, bin_add, bin_sub, bin_mul, bin_fdiv, bin_mod, cmp_eq, cmp_ne, cmp_lt, cmp_le, cmp_gt, cmp_ge, cmp_in, cmp_notin, cmp_isN, cmp_isnotN, Lr.eq_int, Lr.ne_int, Lr.len_lst, Lr.len_tup, tuple_lst, tuple_tup, list_lst, list_tup, int_bl, bi_len, bi_tuple, bi_list, bi_int, bi_join, bi_any, bi_all, bi_index, bi_sorted, bi_min1, bi_max1, bi_max2, bi_abs, bi_sum, bi_split, idx_lst, idx_tup, Lr.sl_lst, Lr.sl_tup, and_t', and_f, or_f', or_t, blo, chain_f, chain_t, not_b, neg_i, cond_t, cond_f, rng1, rng2, list_of, part_i, seq_nx, seq_ret, seq_brk, seq_cont, if_t, if_f, own_some, own_val, own_non, sv_some, sv_none, bind_name, start0, Option.bind_some, Option.bind_none, Option.map_some, Option.map_none, List.map_cons, List.map_nil, List.length_cons, List.length_nil, List.replicate, List.cons_append, List.nil_append, List.getElem?_cons_zero, List.getElem?_cons_succ, List.set_cons_zero, List.set_cons_succ, Nat.reduceAdd, Nat.reduceSub, if_true, if_false, Bool.false_eq_true, reduceIte, decide_true, decide_false, Bool.not_true, Bool.not_false, tup_d, lst_d, sz0, sz1, sz2, sz3, sz4, sz5, bnd2, bnd2l, bnd3, set2, set3, abs_i, max2_i, lt_i, gt_i, le_i, ge_i, for_nil, sat_some, lo_nx, lo_cont, lo_brk, lo_ret, isi_s, len_str, hz, G.longest, G.lets, seqI_str]
    rw [e2 _ fun c => by simp only [cmpl, exs, ex, ev, evs, evPart, evIt, sealE, sealIt, rd_val, rd_own, rd_succ, Lr.add_int, Lr.sub_int, bin_add, bin_sub, bin_mul, bin_fdiv, bin_mod, cmp_eq, cmp_ne, cmp_lt, cmp_le, cmp_gt, cmp_ge, cmp_in, cmp_notin, cmp_isN, cmp_isnotN, Lr.eq_int, Lr.ne_int, Lr.len_lst, Lr.len_tup, tuple_lst, tuple_tup, list_lst, list_tup, int_bl, bi_len, bi_tuple, bi_list, bi_int, bi_join, bi_any, bi_all, bi_index, bi_sorted, bi_min1, bi_max1, bi_max2, bi_abs, bi_sum, bi_split, idx_lst, idx_tup, Lr.sl_lst, Lr.sl_tup, and_t', and_f, or_f', or_t, blo, chain_f, chain_t, not_b, neg_i, cond_t, cond_f, rng1, rng2, list_of, part_i, seq_nx, seq_ret, seq_brk, seq_cont, if_t, if_f, own_some, own_val, own_non, sv_some, sv_none, bind_name, start0, Option.bind_some, Option.bind_none, Option.map_some, Option.map_none, List.map_cons, List.map_nil, List.length_cons, List.length_nil, List.replicate, List.cons_append, List.nil_append, List.getElem?_cons_zero, List.getElem?_cons_succ, List.set_cons_zero, List.set_cons_succ, Nat.reduceAdd, Nat.reduceSub, if_true, if_false, Bool.false_eq_true, reduceIte, decide_true, decide_false, Bool.not_true, Bool.not_false, tup_d, lst_d, sz0, sz1, sz2, sz3, sz4, sz5, bnd2, bnd2l, bnd3, set2, set3, abs_i, max2_i, lt_i, gt_i, le_i, ge_i, for_nil, sat_some, lo_nx, lo_cont, lo_brk, lo_ret, hl]]
    simp only [cmpl, exs, ex, ev, evs, evPart, evIt, sealE, sealIt, rd_val, rd_own, rd_succ, Lr.add_int, Lr.sub_int, bin_add, bin_sub, bin_mul, bin_fdiv, bin_mod, cmp_eq, cmp_ne, cmp_lt, cmp_le, cmp_gt, cmp_ge, cmp_in, cmp_notin, cmp_isN, cmp_isnotN, Lr.eq_int, Lr.ne_int, Lr.len_lst, Lr.len_tup, tuple_lst, tuple_tup, list_lst, list_tup, int_bl, bi_len, bi_tuple, bi_list, bi_int, bi_join, bi_any, bi_all, bi_index, bi_sorted, bi_min1, bi_max1, bi_max2, bi_abs, bi_sum, bi_split, idx_lst, idx_tup, Lr.sl_lst, Lr.sl_tup, and_t', and_f, or_f', or_t, blo, chain_f, chain_t, not_b, neg_i, cond_t, cond_f, rng1, rng2, list_of, part_i, seq_nx, seq_ret, seq_brk, seq_cont, if_t, if_f, own_some, own_val, own_non, sv_some, sv_none, bind_name, start0, Option.bind_some, Option.bind_none, Option.map_some, Option.map_none, List.map_cons, List.map_nil, List.length_cons, List.length_nil, List.replicate, List.cons_append, List.nil_append, List.getElem?_cons_zero, List.getElem?_cons_succ, List.set_cons_zero, List.set_cons_succ, Nat.reduceAdd, Nat.reduceSub, if_true, if_false, Bool.false_eq_true, reduceIte, decide_true, decide_false, Bool.not_true, Bool.not_false, tup_d, lst_d, sz0, sz1, sz2, sz3, sz4, sz5, bnd2, bnd2l, bnd3, set2, set3, abs_i, max2_i, lt_i, gt_i, le_i, ge_i, for_nil, sat_some, lo_nx, lo_cont, lo_brk, lo_ret, all_map]
    by_cases h1 : 1 ≤ z.length
    · by_cases h2 : z.length ≤ 5
      · simp only [cmpl, exs, ex, ev, evs, evPart, evIt, sealE, sealIt, rd_val, rd_own, rd_succ, Lr.add_int, Lr.sub_int, bin_add, bin_sub, bin_mul, bin_fdiv, bin_mod, cmp_eq, cmp_ne, cmp_lt, cmp_le, cmp_gt, cmp_ge, cmp_in, cmp_notin, cmp_isN, cmp_isnotN, Lr.eq_int, Lr.ne_int, Lr.len_lst, Lr.len_tup, tuple_lst, tuple_tup, list_lst, list_tup, int_bl, bi_len, bi_tuple, bi_list, bi_int, bi_join, bi_any, bi_all, bi_index, bi_sorted, bi_min1, bi_max1, bi_max2, bi_abs, bi_sum, bi_split, idx_lst, idx_tup, Lr.sl_lst, Lr.sl_tup, and_t', and_f, or_f', or_t, blo, chain_f, chain_t, not_b, neg_i, cond_t, cond_f, rng1, rng2, list_of, part_i, seq_nx, seq_ret, seq_brk, seq_cont, if_t, if_f, own_some, own_val, own_non, sv_some, sv_none, bind_name, start0, Option.bind_some, Option.bind_none, Option.map_some, Option.map_none, List.map_cons, List.map_nil, List.length_cons, List.length_nil, List.replicate, List.cons_append, List.nil_append, List.getElem?_cons_zero, List.getElem?_cons_succ, List.set_cons_zero, List.set_cons_succ, Nat.reduceAdd, Nat.reduceSub, if_true, if_false, Bool.false_eq_true, reduceIte, decide_true, decide_false, Bool.not_true, Bool.not_false, tup_d, lst_d, sz0, sz1, sz2, sz3, sz4, sz5, bnd2, bnd2l, bnd3, set2, set3, abs_i, max2_i, lt_i, gt_i, le_i, ge_i, for_nil, sat_some, lo_nx, lo_cont, lo_brk, lo_ret, nameB, decide_eq_true (show (1 : Int) ≤ (z.length : Nat) by omega), decide_eq_true (show ((z.length : Nat) : Int) ≤ 5 by omega)]
        congr 2
        rw [Bool.eq_iff_iff, List.all_eq_true, decide_eq_true_eq]
        unfold NameOk
        simp [h1, h2]
      · simp only [cmpl, exs, ex, ev, evs, evPart, evIt, sealE, sealIt, rd_val, rd_own, rd_succ, Lr.add_int, Lr.sub_int, bin_add, bin_sub, bin_mul, bin_fdiv, bin_mod, cmp_eq, cmp_ne, cmp_lt, cmp_le, cmp_gt, cmp_ge, cmp_in, cmp_notin, cmp_isN, cmp_isnotN, Lr.eq_int, Lr.ne_int, Lr.len_lst, Lr.len_tup, tuple_lst, tuple_tup, list_lst, list_tup, int_bl, bi_len, bi_tuple, bi_list, bi_int, bi_join, bi_any, bi_all, bi_index, bi_sorted, bi_min1, bi_max1, bi_max2, bi_abs, bi_sum, bi_split, idx_lst, idx_tup, Lr.sl_lst, Lr.sl_tup, and_t', and_f, or_f', or_t, blo, chain_f, chain_t, not_b, neg_i, cond_t, cond_f, rng1, rng2, list_of, part_i, seq_nx, seq_ret, seq_brk, seq_cont, if_t, if_f, own_some, own_val, own_non, sv_some, sv_none, bind_name, start0, Option.bind_some, Option.bind_none, Option.map_some, Option.map_none, List.map_cons, List.map_nil, List.length_cons, List.length_nil, List.replicate, List.cons_append, List.nil_append, List.getElem?_cons_zero, List.getElem?_cons_succ, List.set_cons_zero, List.set_cons_succ, Nat.reduceAdd, Nat.reduceSub, if_true, if_false, Bool.false_eq_true, reduceIte, decide_true, decide_false, Bool.not_true, Bool.not_false, tup_d, lst_d, sz0, sz1, sz2, sz3, sz4, sz5, bnd2, bnd2l, bnd3, set2, set3, abs_i, max2_i, lt_i, gt_i, le_i, ge_i, for_nil, sat_some, lo_nx, lo_cont, lo_brk, lo_ret, nameB, decide_eq_true (show (1 : Int) ≤ (z.length : Nat) by omega), decide_eq_false (show ¬ ((z.length : Nat) : Int) ≤ 5 by omega)]
        rw [decide_eq_false fun h : NameOk z => h2 h.2.1]
    · rw [decide_eq_false (by omega)]
      simp only [cmpl, exs, ex, ev, evs, evPart, evIt, sealE, sealIt, rd_val, rd_own, rd_succ, Lr.add_int, Lr.sub_int, bin_add, bin_sub, bin_mul, bin_fdiv, bin_mod, cmp_eq, cmp_ne, cmp_lt, cmp_le, cmp_gt, cmp_ge, cmp_in, cmp_notin, cmp_isN, cmp_isnotN, Lr.eq_int, Lr.ne_int, Lr.len_lst, Lr.len_tup, tuple_lst, tuple_tup, list_lst, list_tup, int_bl, bi_len, bi_tuple, bi_list, bi_int, bi_join, bi_any, bi_all, bi_index, bi_sorted, bi_min1, bi_max1, bi_max2, bi_abs, bi_sum, bi_split, idx_lst, idx_tup, Lr.sl_lst, Lr.sl_tup, and_t', and_f, or_f', or_t, blo, chain_f, chain_t, not_b, neg_i, cond_t, cond_f, rng1, rng2, list_of, part_i, seq_nx, seq_ret, seq_brk, seq_cont, if_t, if_f, own_some, own_val, own_non, sv_some, sv_none, bind_name, start0, Option.bind_some, Option.bind_none, Option.map_some, Option.map_none, List.map_cons, List.map_nil, List.length_cons, List.length_nil, List.replicate, List.cons_append, List.nil_append, List.getElem?_cons_zero, List.getElem?_cons_succ, List.set_cons_zero, List.set_cons_succ, Nat.reduceAdd, Nat.reduceSub, if_true, if_false, Bool.false_eq_true, reduceIte, decide_true, decide_false, Bool.not_true, Bool.not_false, tup_d, lst_d, sz0, sz1, sz2, sz3, sz4, sz5, bnd2, bnd2l, bnd3, set2, set3, abs_i, max2_i, lt_i, gt_i, le_i, ge_i, for_nil, sat_some, lo_nx, lo_cont, lo_brk, lo_ret, nameB]
      rw [decide_eq_false fun h : NameOk z => h1 h.1]
  · have h := not_str (d := d) fun z e => hs ⟨z, e⟩
    simp only [d_is_name, cmpl, exs, ex, ev, evs, evPart, evIt, sealE, sealIt, rd_val, rd_own, rd_succ, Lr.add_int, Lr.sub_int, bin_add, bin_sub, bin_mul, bin_fdiv, bin_mod, cmp_eq, cmp_ne, cmp_lt, cmp_le, cmp_gt, cmp_ge, cmp_in, cmp_notin, cmp_isN, cmp_isnotN, Lr.eq_int, Lr.ne_int, Lr.len_lst, Lr.len_tup, tuple_lst, tuple_tup, list_lst, list_tup, int_bl, bi_len, bi_tuple, bi_list, bi_int, bi_join, bi_any, bi_all, bi_index, bi_sorted, bi_min1, bi_max1, bi_max2, bi_abs, bi_sum, bi_split, idx_lst, idx_tup, Lr.sl_lst, Lr.sl_tup, and_t', and_f, or_f', or_t, blo, chain_f, chain_t, not_b, neg_i, cond_t, cond_f, rng1, rng2, list_of, part_i, seq_nx, seq_ret, seq_brk, seq_cont, if_t, if_f, own_some, own_val, own_non, sv_some, sv_none, bind_name, start0, Option.bind_some, Option.bind_none, Option.map_some, Option.map_none, List.map_cons, List.map_nil, List.length_cons, List.length_nil, List.replicate, List.cons_append, List.nil_append, List.getElem?_cons_zero, List.getElem?_cons_succ, List.set_cons_zero, List.set_cons_succ, Nat.reduceAdd, Nat.reduceSub, if_true, if_false, Bool.false_eq_true, reduceIte, decide_true, decide_false, Bool.not_true, Bool.not_false, tup_d, lst_d, sz0, sz1, sz2, sz3, sz4, sz5, bnd2, bnd2l, bnd3, set2, set3, abs_i, max2_i, lt_i, gt_i, le_i, ge_i, for_nil, sat_some, lo_nx, lo_cont, lo_brk, lo_ret, h, nameB_no h]
theorem le_a {c : Nat} : leEv (.str "a") (.str ⟨#[c]⟩) = some (decide (97 ≤ c)) := by
  show some (!decide ([c] < [97])) = _
  congr 1
  have : ([c] < [97]) ↔ c < 97 := by rw [List.cons_lt_cons_iff]; simp
  rw [decide_eq_decide.mpr this, ← decide_not]
  exact decide_eq_decide.mpr (by omega)
theorem le_z {c : Nat} : leEv (.str ⟨#[c]⟩) (.str "z") = some (decide (c ≤ 122)) := by
  show some (!decide ([122] < [c])) = _
  congr 1
  have : ([122] < [c]) ↔ 122 < c := by rw [List.cons_lt_cons_iff]; simp
  rw [decide_eq_decide.mpr this, ← decide_not]
  exact decide_eq_decide.mpr (by omega)
theorem cmp_les {x y : Str} : cmpEv .le (.str x) (.str y) = leEv (.str x) (.str y) := rfl
theorem lisname_ok (hT : T "_law_is_name" = some d_law_is_name_k01) {L m k : Nat} {d : PyData} (hd : Gd L m d) (hk : 1 ≤ k) : callAt T g fu k "_law_is_name" [d] = some (.bool (nameB d)) := by
  obtain ⟨k, rfl⟩ := lvl hk
  refine call_sat hT rfl ?_
  by_cases hs : ∃ z, d = .str z
  · obtain ⟨z, rfl⟩ := hs
    unfold Gd at hd
    have hz : szOk z.length = true := sz_ok (by omega)
    by_cases h1 : 1 ≤ z.length ∧ z.length ≤ 5
    · refine ife_f ?_ (ret_sat ?_ rfl)
      · simp only [cmpl, exs, ex, ev, evs, evPart, evIt, sealE, sealIt, rd_val, rd_own, rd_succ, Lr.add_int, Lr.sub_int, bin_add, bin_sub, bin_mul, bin_fdiv, bin_mod, cmp_eq, cmp_ne, cmp_lt, cmp_le, cmp_gt, cmp_ge, cmp_in, cmp_notin, cmp_isN, cmp_isnotN, Lr.eq_int, Lr.ne_int, Lr.len_lst, Lr.len_tup, tuple_lst, tuple_tup, list_lst, list_tup, int_bl, bi_len, bi_tuple, bi_list, bi_int, bi_join, bi_any, bi_all, bi_index, bi_sorted, bi_min1, bi_max1, bi_max2, bi_abs, bi_sum, bi_split, idx_lst, idx_tup, Lr.sl_lst, Lr.sl_tup, and_t', and_f, or_f', or_t, blo, chain_f, chain_t, not_b, neg_i, cond_t, cond_f, rng1, rng2, list_of, part_i, seq_nx, seq_ret, seq_brk, seq_cont, if_t, if_f, own_some, own_val, own_non, sv_some, sv_none, bind_name, start0, Option.bind_some, Option.bind_none, Option.map_some, Option.map_none, List.map_cons, List.map_nil, List.length_cons, List.length_nil, List.replicate, List.cons_append, List.nil_append, List.getElem?_cons_zero, List.getElem?_cons_succ, List.set_cons_zero, List.set_cons_succ, Nat.reduceAdd, Nat.reduceSub, if_true, if_false, Bool.false_eq_true, reduceIte, decide_true, decide_false, Bool.not_true, Bool.not_false, tup_d, lst_d, sz0, sz1, sz2, sz3, sz4, sz5, bnd2, bnd2l, bnd3, set2, set3, abs_i, max2_i, lt_i, gt_i, le_i, ge_i, for_nil, sat_some, lo_nx, lo_cont, lo_brk, lo_ret, isi_s, len_str, hz, decide_eq_true (show (1 : Int) ≤ (z.length : Nat) by omega), decide_eq_true (show ((z.length : Nat) : Int) ≤ 5 by omega)]
      · simp only [d_law_is_name_k01, cmpl, exs, ex, ev, evs, evPart, evIt, sealE, sealIt, rd_val, rd_own, rd_succ, Lr.add_int, Lr.sub_int, bin_add, bin_sub, bin_mul, bin_fdiv, bin_mod, cmp_eq, cmp_ne, cmp_lt, cmp_le, cmp_gt, cmp_ge, cmp_in, cmp_notin, cmp_isN, cmp_isnotN, Lr.eq_int, Lr.ne_int, Lr.len_lst, Lr.len_tup, tuple_lst, tuple_tup, list_lst, list_tup, int_bl, bi_len, bi_tuple, bi_list, bi_int, bi_join, bi_any, bi_all, bi_index, bi_sorted, bi_min1, bi_max1, bi_max2, bi_abs, bi_sum, bi_split, idx_lst, idx_tup, Lr.sl_lst, Lr.sl_tup, and_t', and_f, or_f', or_t, blo, chain_f, chain_t, not_b, neg_i, cond_t, cond_f, rng1, rng2, list_of, part_i, seq_nx, seq_ret, seq_brk, seq_cont, if_t, if_f, own_some, own_val, own_non, sv_some, sv_none, bind_name, start0, Option.bind_some, Option.bind_none, Option.map_some, Option.map_none, List.map_cons, List.map_nil, List.length_cons, List.length_nil, List.replicate, List.cons_append, List.nil_append, List.getElem?_cons_zero, List.getElem?_cons_succ, List.set_cons_zero, List.set_cons_succ, Nat.reduceAdd, Nat.reduceSub, if_true, if_false, Bool.false_eq_true, reduceIte, decide_true, decide_false, Bool.not_true, Bool.not_false, tup_d, lst_d, sz0, sz1, sz2, sz3, sz4, sz5, bnd2, bnd2l, bnd3, set2, set3, abs_i, max2_i, lt_i, gt_i, le_i, ge_i, for_nil, sat_some, lo_nx, lo_cont, lo_brk, lo_ret, seqI_str, hz]
        have e2 : ∀ f : PyData → Option (Option PyData), (∀ c : Nat, f (.str ⟨#[c]⟩) = some (if (!decide (97 ≤ c ∧ c ≤ 122)) = true then some (.str ⟨#[c]⟩) else none)) → lcRun f (signs z) = some ((z.cps.toList.filter fun c => !decide (97 ≤ c ∧ c ≤ 122)).map fun c => .str ⟨#[c]⟩) := fun f hf => lcRun_filter fun c _ => hf c
        rw [e2 _ fun c => by
            simp only [d_law_is_name_k01, cmpl, exs, ex, ev, evs, evPart, evIt, sealE, sealIt, rd_val, rd_own, rd_succ, Lr.add_int, Lr.sub_int, bin_add, bin_sub, bin_mul, bin_fdiv, bin_mod, cmp_eq, cmp_ne, cmp_lt, cmp_le, cmp_gt, cmp_ge, cmp_in, cmp_notin, cmp_isN, cmp_isnotN, Lr.eq_int, Lr.ne_int, Lr.len_lst, Lr.len_tup, tuple_lst, tuple_tup, list_lst, list_tup, int_bl, bi_len, bi_tuple, bi_list, bi_int, bi_join, bi_any, bi_all, bi_index, bi_sorted, bi_min1, bi_max1, bi_max2, bi_abs, bi_sum, bi_split, idx_lst, idx_tup, Lr.sl_lst, Lr.sl_tup, and_t', and_f, or_f', or_t, blo, chain_f, chain_t, not_b, neg_i, cond_t, cond_f, rng1, rng2, list_of, part_i, seq_nx, seq_ret, seq_brk, seq_cont, if_t, if_f, own_some, own_val, own_non, sv_some, sv_none, bind_name, start0, Option.bind_some, Option.bind_none, Option.map_some, Option.map_none, List.map_cons, List.map_nil, List.length_cons, List.length_nil, List.replicate, List.cons_append, List.nil_append, List.getElem?_cons_zero, List.getElem?_cons_succ, List.set_cons_zero, List.set_cons_succ, Nat.reduceAdd, Nat.reduceSub, if_true, if_false, Bool.false_eq_true, reduceIte, decide_true, decide_false, Bool.not_true, Bool.not_false, tup_d, lst_d, sz0, sz1, sz2, sz3, sz4, sz5, bnd2, bnd2l, bnd3, set2, set3, abs_i, max2_i, lt_i, gt_i, le_i, ge_i, for_nil, sat_some, lo_nx, lo_cont, lo_brk, lo_ret, cmp_les, le_a, le_z]
            by_cases q1 : 97 ≤ c
            · by_cases q2 : c ≤ 122
              · simp only [cmpl, exs, ex, ev, evs, evPart, evIt, sealE, sealIt, rd_val, rd_own, rd_succ, Lr.add_int, Lr.sub_int, bin_add, bin_sub, bin_mul, bin_fdiv, bin_mod, cmp_eq, cmp_ne, cmp_lt, cmp_le, cmp_gt, cmp_ge, cmp_in, cmp_notin, cmp_isN, cmp_isnotN, Lr.eq_int, Lr.ne_int, Lr.len_lst, Lr.len_tup, tuple_lst, tuple_tup, list_lst, list_tup, int_bl, bi_len, bi_tuple, bi_list, bi_int, bi_join, bi_any, bi_all, bi_index, bi_sorted, bi_min1, bi_max1, bi_max2, bi_abs, bi_sum, bi_split, idx_lst, idx_tup, Lr.sl_lst, Lr.sl_tup, and_t', and_f, or_f', or_t, blo, chain_f, chain_t, not_b, neg_i, cond_t, cond_f, rng1, rng2, list_of, part_i, seq_nx, seq_ret, seq_brk, seq_cont, if_t, if_f, own_some, own_val, own_non, sv_some, sv_none, bind_name, start0, Option.bind_some, Option.bind_none, Option.map_some, Option.map_none, List.map_cons, List.map_nil, List.length_cons, List.length_nil, List.replicate, List.cons_append, List.nil_append, List.getElem?_cons_zero, List.getElem?_cons_succ, List.set_cons_zero, List.set_cons_succ, Nat.reduceAdd, Nat.reduceSub, if_true, if_false, Bool.false_eq_true, reduceIte, decide_true, decide_false, Bool.not_true, Bool.not_false, tup_d, lst_d, sz0, sz1, sz2, sz3, sz4, sz5, bnd2, bnd2l, bnd3, set2, set3, abs_i, max2_i, lt_i, gt_i, le_i, ge_i, for_nil, sat_some, lo_nx, lo_cont, lo_brk, lo_ret, cmp_les, le_z, decide_eq_true q1, decide_eq_true q2]
                simp [q1, q2, condD]
              · simp only [cmpl, exs, ex, ev, evs, evPart, evIt, sealE, sealIt, rd_val, rd_own, rd_succ, Lr.add_int, Lr.sub_int, bin_add, bin_sub, bin_mul, bin_fdiv, bin_mod, cmp_eq, cmp_ne, cmp_lt, cmp_le, cmp_gt, cmp_ge, cmp_in, cmp_notin, cmp_isN, cmp_isnotN, Lr.eq_int, Lr.ne_int, Lr.len_lst, Lr.len_tup, tuple_lst, tuple_tup, list_lst, list_tup, int_bl, bi_len, bi_tuple, bi_list, bi_int, bi_join, bi_any, bi_all, bi_index, bi_sorted, bi_min1, bi_max1, bi_max2, bi_abs, bi_sum, bi_split, idx_lst, idx_tup, Lr.sl_lst, Lr.sl_tup, and_t', and_f, or_f', or_t, blo, chain_f, chain_t, not_b, neg_i, cond_t, cond_f, rng1, rng2, list_of, part_i, seq_nx, seq_ret, seq_brk, seq_cont, if_t, if_f, own_some, own_val, own_non, sv_some, sv_none, bind_name, start0, Option.bind_some, Option.bind_none, Option.map_some, Option.map_none, List.map_cons, List.map_nil, List.length_cons, List.length_nil, List.replicate, List.cons_append, List.nil_append, List.getElem?_cons_zero, List.getElem?_cons_succ, List.set_cons_zero, List.set_cons_succ, Nat.reduceAdd, Nat.reduceSub, if_true, if_false, Bool.false_eq_true, reduceIte, decide_true, decide_false, Bool.not_true, Bool.not_false, tup_d, lst_d, sz0, sz1, sz2, sz3, sz4, sz5, bnd2, bnd2l, bnd3, set2, set3, abs_i, max2_i, lt_i, gt_i, le_i, ge_i, for_nil, sat_some, lo_nx, lo_cont, lo_brk, lo_ret, cmp_les, le_z, decide_eq_true q1, decide_eq_false q2]
                simp [q1, q2, condD]
            · simp only [cmpl, exs, ex, ev, evs, evPart, evIt, sealE, sealIt, rd_val, rd_own, rd_succ, Lr.add_int, Lr.sub_int, bin_add, bin_sub, bin_mul, bin_fdiv, bin_mod, cmp_eq, cmp_ne, cmp_lt, cmp_le, cmp_gt, cmp_ge, cmp_in, cmp_notin, cmp_isN, cmp_isnotN, Lr.eq_int, Lr.ne_int, Lr.len_lst, Lr.len_tup, tuple_lst, tuple_tup, list_lst, list_tup, int_bl, bi_len, bi_tuple, bi_list, bi_int, bi_join, bi_any, bi_all, bi_index, bi_sorted, bi_min1, bi_max1, bi_max2, bi_abs, bi_sum, bi_split, idx_lst, idx_tup, Lr.sl_lst, Lr.sl_tup, and_t', and_f, or_f', or_t, blo, chain_f, chain_t, not_b, neg_i, cond_t, cond_f, rng1, rng2, list_of, part_i, seq_nx, seq_ret, seq_brk, seq_cont, if_t, if_f, own_some, own_val, own_non, sv_some, sv_none, bind_name, start0, Option.bind_some, Option.bind_none, Option.map_some, Option.map_none, List.map_cons, List.map_nil, List.length_cons, List.length_nil, List.replicate, List.cons_append, List.nil_append, List.getElem?_cons_zero, List.getElem?_cons_succ, List.set_cons_zero, List.set_cons_succ, Nat.reduceAdd, Nat.reduceSub, if_true, if_false, Bool.false_eq_true, reduceIte, decide_true, decide_false, Bool.not_true, Bool.not_false, tup_d, lst_d, sz0, sz1, sz2, sz3, sz4, sz5, bnd2, bnd2l, bnd3, set2, set3, abs_i, max2_i, lt_i, gt_i, le_i, ge_i, for_nil, sat_some, lo_nx, lo_cont, lo_brk, lo_ret, decide_eq_false q1]
              simp [q1, condD]]
        have hlay : Lay 1 (.list ((z.cps.toList.filter fun c => !decide (97 ≤ c ∧ c ≤ 122)).map fun c => PyData.str ⟨#[c]⟩)) := lay_lst fun d hd' => by
          obtain ⟨c, hc, rfl⟩ := List.mem_map.mp hd'
          have hc := (List.mem_filter.mp hc).1
          refine lay_kw _ ?_
          have h0 := hd.1
          unfold PyData.strOk at h0 ⊢
          rw [Array.all_eq_true'] at h0
          have := h0 c (by simpa using hc)
          simpa using this
        simp only [cmpl, exs, ex, ev, evs, evPart, evIt, sealE, sealIt, rd_val, rd_own, rd_succ, Lr.add_int, Lr.sub_int, bin_add, bin_sub, bin_mul, bin_fdiv, bin_mod, cmp_eq, cmp_ne, cmp_lt, cmp_le, cmp_gt, cmp_ge, cmp_in, cmp_notin, cmp_isN, cmp_isnotN, Lr.eq_int, Lr.ne_int, Lr.len_lst, Lr.len_tup, tuple_lst, tuple_tup, list_lst, list_tup, int_bl, bi_len, bi_tuple, bi_list, bi_int, bi_join, bi_any, bi_all, bi_index, bi_sorted, bi_min1, bi_max1, bi_max2, bi_abs, bi_sum, bi_split, idx_lst, idx_tup, Lr.sl_lst, Lr.sl_tup, and_t', and_f, or_f', or_t, blo, chain_f, chain_t, not_b, neg_i, cond_t, cond_f, rng1, rng2, list_of, part_i, seq_nx, seq_ret, seq_brk, seq_cont, if_t, if_f, own_some, own_val, own_non, sv_some, sv_none, bind_name, start0, Option.bind_some, Option.bind_none, Option.map_some, Option.map_none, List.map_cons, List.map_nil, List.length_cons, List.length_nil, List.replicate, List.cons_append, List.nil_append, List.getElem?_cons_zero, List.getElem?_cons_succ, List.set_cons_zero, List.set_cons_succ, Nat.reduceAdd, Nat.reduceSub, if_true, if_false, Bool.false_eq_true, reduceIte, decide_true, decide_false, Bool.not_true, Bool.not_false, tup_d, lst_d, sz0, sz1, sz2, sz3, sz4, sz5, bnd2, bnd2l, bnd3, set2, set3, abs_i, max2_i, lt_i, gt_i, le_i, ge_i, for_nil, sat_some, lo_nx, lo_cont, lo_brk, lo_ret, eqnil hlay (by decide), filt_empty]
        congr 2
        rw [Bool.eq_iff_iff, List.all_eq_true, nameB, decide_eq_true_eq]
        unfold NameOk
        simp [h1]
    · have hn : nameB (.str z) = false := decide_eq_false fun h : NameOk z => h1 ⟨h.1, h.2.1⟩
      rw [hn]
      refine ife_t ?_ (ret_sat rfl rfl)
      simp only [cmpl, exs, ex, ev, evs, evPart, evIt, sealE, sealIt, rd_val, rd_own, rd_succ, Lr.add_int, Lr.sub_int, bin_add, bin_sub, bin_mul, bin_fdiv, bin_mod, cmp_eq, cmp_ne, cmp_lt, cmp_le, cmp_gt, cmp_ge, cmp_in, cmp_notin, cmp_isN, cmp_isnotN, Lr.eq_int, Lr.ne_int, Lr.len_lst, Lr.len_tup, tuple_lst, tuple_tup, list_lst, list_tup, int_bl, bi_len, bi_tuple, bi_list, bi_int, bi_join, bi_any, bi_all, bi_index, bi_sorted, bi_min1, bi_max1, bi_max2, bi_abs, bi_sum, bi_split, idx_lst, idx_tup, Lr.sl_lst, Lr.sl_tup, and_t', and_f, or_f', or_t, blo, chain_f, chain_t, not_b, neg_i, cond_t, cond_f, rng1, rng2, list_of, part_i, seq_nx, seq_ret, seq_brk, seq_cont, if_t, if_f, own_some, own_val, own_non, sv_some, sv_none, bind_name, start0, Option.bind_some, Option.bind_none, Option.map_some, Option.map_none, List.map_cons, List.map_nil, List.length_cons, List.length_nil, List.replicate, List.cons_append, List.nil_append, List.getElem?_cons_zero, List.getElem?_cons_succ, List.set_cons_zero, List.set_cons_succ, Nat.reduceAdd, Nat.reduceSub, if_true, if_false, Bool.false_eq_true, reduceIte, decide_true, decide_false, Bool.not_true, Bool.not_false, tup_d, lst_d, sz0, sz1, sz2, sz3, sz4, sz5, bnd2, bnd2l, bnd3, set2, set3, abs_i, max2_i, lt_i, gt_i, le_i, ge_i, for_nil, sat_some, lo_nx, lo_cont, lo_brk, lo_ret, isi_s, len_str, hz]
      by_cases q : 1 ≤ z.length
      · simp only [cmpl, exs, ex, ev, evs, evPart, evIt, sealE, sealIt, rd_val, rd_own, rd_succ, Lr.add_int, Lr.sub_int, bin_add, bin_sub, bin_mul, bin_fdiv, bin_mod, cmp_eq, cmp_ne, cmp_lt, cmp_le, cmp_gt, cmp_ge, cmp_in, cmp_notin, cmp_isN, cmp_isnotN, Lr.eq_int, Lr.ne_int, Lr.len_lst, Lr.len_tup, tuple_lst, tuple_tup, list_lst, list_tup, int_bl, bi_len, bi_tuple, bi_list, bi_int, bi_join, bi_any, bi_all, bi_index, bi_sorted, bi_min1, bi_max1, bi_max2, bi_abs, bi_sum, bi_split, idx_lst, idx_tup, Lr.sl_lst, Lr.sl_tup, and_t', and_f, or_f', or_t, blo, chain_f, chain_t, not_b, neg_i, cond_t, cond_f, rng1, rng2, list_of, part_i, seq_nx, seq_ret, seq_brk, seq_cont, if_t, if_f, own_some, own_val, own_non, sv_some, sv_none, bind_name, start0, Option.bind_some, Option.bind_none, Option.map_some, Option.map_none, List.map_cons, List.map_nil, List.length_cons, List.length_nil, List.replicate, List.cons_append, List.nil_append, List.getElem?_cons_zero, List.getElem?_cons_succ, List.set_cons_zero, List.set_cons_succ, Nat.reduceAdd, Nat.reduceSub, if_true, if_false, Bool.false_eq_true, reduceIte, decide_true, decide_false, Bool.not_true, Bool.not_false, tup_d, lst_d, sz0, sz1, sz2, sz3, sz4, sz5, bnd2, bnd2l, bnd3, set2, set3, abs_i, max2_i, lt_i, gt_i, le_i, ge_i, for_nil, sat_some, lo_nx, lo_cont, lo_brk, lo_ret, decide_eq_true (show (1 : Int) ≤ (z.length : Nat) by omega), decide_eq_false (show ¬ ((z.length : Nat) : Int) ≤ 5 by omega)]
      · simp only [cmpl, exs, ex, ev, evs, evPart, evIt, sealE, sealIt, rd_val, rd_own, rd_succ, Lr.add_int, Lr.sub_int, bin_add, bin_sub, bin_mul, bin_fdiv, bin_mod, cmp_eq, cmp_ne, cmp_lt, cmp_le, cmp_gt, cmp_ge, cmp_in, cmp_notin, cmp_isN, cmp_isnotN, Lr.eq_int, Lr.ne_int, Lr.len_lst, Lr.len_tup, tuple_lst, tuple_tup, list_lst, list_tup, int_bl, bi_len, bi_tuple, bi_list, bi_int, bi_join, bi_any, bi_all, bi_index, bi_sorted, bi_min1, bi_max1, bi_max2, bi_abs, bi_sum, bi_split, idx_lst, idx_tup, Lr.sl_lst, Lr.sl_tup, and_t', and_f, or_f', or_t, blo, chain_f, chain_t, not_b, neg_i, cond_t, cond_f, rng1, rng2, list_of, part_i, seq_nx, seq_ret, seq_brk, seq_cont, if_t, if_f, own_some, own_val, own_non, sv_some, sv_none, bind_name, start0, Option.bind_some, Option.bind_none, Option.map_some, Option.map_none, List.map_cons, List.map_nil, List.length_cons, List.length_nil, List.replicate, List.cons_append, List.nil_append, List.getElem?_cons_zero, List.getElem?_cons_succ, List.set_cons_zero, List.set_cons_succ, Nat.reduceAdd, Nat.reduceSub, if_true, if_false, Bool.false_eq_true, reduceIte, decide_true, decide_false, Bool.not_true, Bool.not_false, tup_d, lst_d, sz0, sz1, sz2, sz3, sz4, sz5, bnd2, bnd2l, bnd3, set2, set3, abs_i, max2_i, lt_i, gt_i, le_i, ge_i, for_nil, sat_some, lo_nx, lo_cont, lo_brk, lo_ret, decide_eq_false (show ¬ (1 : Int) ≤ (z.length : Nat) by omega)]
  · have h := not_str (d := d) fun z e => hs ⟨z, e⟩
    rw [nameB_no h]
    refine ife_t ?_ (ret_sat rfl rfl)
    simp only [cmpl, exs, ex, ev, evs, evPart, evIt, sealE, sealIt, rd_val, rd_own, rd_succ, Lr.add_int, Lr.sub_int, bin_add, bin_sub, bin_mul, bin_fdiv, bin_mod, cmp_eq, cmp_ne, cmp_lt, cmp_le, cmp_gt, cmp_ge, cmp_in, cmp_notin, cmp_isN, cmp_isnotN, Lr.eq_int, Lr.ne_int, Lr.len_lst, Lr.len_tup, tuple_lst, tuple_tup, list_lst, list_tup, int_bl, bi_len, bi_tuple, bi_list, bi_int, bi_join, bi_any, bi_all, bi_index, bi_sorted, bi_min1, bi_max1, bi_max2, bi_abs, bi_sum, bi_split, idx_lst, idx_tup, Lr.sl_lst, Lr.sl_tup, and_t', and_f, or_f', or_t, blo, chain_f, chain_t, not_b, neg_i, cond_t, cond_f, rng1, rng2, list_of, part_i, seq_nx, seq_ret, seq_brk, seq_cont, if_t, if_f, own_some, own_val, own_non, sv_some, sv_none, bind_name, start0, Option.bind_some, Option.bind_none, Option.map_some, Option.map_none, List.map_cons, List.map_nil, List.length_cons, List.length_nil, List.replicate, List.cons_append, List.nil_append, List.getElem?_cons_zero, List.getElem?_cons_succ, List.set_cons_zero, List.set_cons_succ, Nat.reduceAdd, Nat.reduceSub, if_true, if_false, Bool.false_eq_true, reduceIte, decide_true, decide_false, Bool.not_true, Bool.not_false, tup_d, lst_d, sz0, sz1, sz2, sz3, sz4, sz5, bnd2, bnd2l, bnd3, set2, set3, abs_i, max2_i, lt_i, gt_i, le_i, ge_i, for_nil, sat_some, lo_nx, lo_cont, lo_brk, lo_ret, h]
end
end Lr
namespace Lr
open PySem PySem.Spec PyProof.Rows L2
theorem ax0 {x : PyData} {r : List PyData} : atI (x :: r) 0 = some x := atI_nat (j := 0) rfl
theorem ax1 {x y : PyData} {r : List PyData} : atI (x :: y :: r) 1 = some y := atI_nat (j := 1) rfl
theorem ax2 {x y z : PyData} {r : List PyData} : atI (x :: y :: z :: r) 2 = some z := atI_nat (j := 2) rfl
theorem ax3 {x y z u : PyData} {r : List PyData} : atI (x :: y :: z :: u :: r) 3 = some u := atI_nat (j := 3) rfl
section
variable {T : Tab} {g : Str → Option PyData} {fu : Nat} {L m : Nat} {hs : List Str}
theorem ishand_ok (hT : T "is_hand" = some d_is_hand) (hn : ∀ x ∈ hs, NameOk x) {k : Nat} {d : PyData} (hd : Gd L m d) (hk : 1 ≤ k) : callAt T g fu k "is_hand" [d, hsD hs] = some (.bool (handB hs d)) := by
  obtain ⟨k, rfl⟩ := lvl hk
  refine call_sat hT rfl (ret_sat ?_ rfl)
  by_cases hs' : ∃ z, d = .str z
  · obtain ⟨z, rfl⟩ := hs'
    unfold Gd at hd
    simp only [d_is_hand, cmpl, exs, ex, ev, evs, evPart, evIt, sealE, sealIt, rd_val, rd_own, rd_succ, Lr.add_int, Lr.sub_int, bin_add, bin_sub, bin_mul, bin_fdiv, bin_mod, cmp_eq, cmp_ne, cmp_lt, cmp_le, cmp_gt, cmp_ge, cmp_in, cmp_notin, cmp_isN, cmp_isnotN, Lr.eq_int, Lr.ne_int, Lr.len_lst, Lr.len_tup, tuple_lst, tuple_tup, list_lst, list_tup, int_bl, bi_len, bi_tuple, bi_list, bi_int, bi_join, bi_any, bi_all, bi_index, bi_sorted, bi_min1, bi_max1, bi_max2, bi_abs, bi_sum, bi_split, idx_lst, idx_tup, Lr.sl_lst, Lr.sl_tup, and_t', and_f, or_f', or_t, blo, chain_f, chain_t, not_b, neg_i, cond_t, cond_f, rng1, rng2, list_of, part_i, seq_nx, seq_ret, seq_brk, seq_cont, if_t, if_f, own_some, own_val, own_non, sv_some, sv_none, bind_name, start0, Option.bind_some, Option.bind_none, Option.map_some, Option.map_none, List.map_cons, List.map_nil, List.length_cons, List.length_nil, List.replicate, List.cons_append, List.nil_append, List.getElem?_cons_zero, List.getElem?_cons_succ, List.set_cons_zero, List.set_cons_succ, Nat.reduceAdd, Nat.reduceSub, if_true, if_false, Bool.false_eq_true, reduceIte, decide_true, decide_false, Bool.not_true, Bool.not_false, tup_d, lst_d, sz0, sz1, sz2, sz3, sz4, sz5, bnd2, bnd2l, bnd3, set2, set3, abs_i, max2_i, lt_i, gt_i, le_i, ge_i, for_nil, sat_some, lo_nx, lo_cont, lo_brk, lo_ret, isi_s, isin_strs hd.1 hn, handB]
  · have h := not_str (d := d) fun z e => hs' ⟨z, e⟩
    have e : handB hs d = false := by cases d <;> first | rfl | cases h
    simp only [d_is_hand, cmpl, exs, ex, ev, evs, evPart, evIt, sealE, sealIt, rd_val, rd_own, rd_succ, Lr.add_int, Lr.sub_int, bin_add, bin_sub, bin_mul, bin_fdiv, bin_mod, cmp_eq, cmp_ne, cmp_lt, cmp_le, cmp_gt, cmp_ge, cmp_in, cmp_notin, cmp_isN, cmp_isnotN, Lr.eq_int, Lr.ne_int, Lr.len_lst, Lr.len_tup, tuple_lst, tuple_tup, list_lst, list_tup, int_bl, bi_len, bi_tuple, bi_list, bi_int, bi_join, bi_any, bi_all, bi_index, bi_sorted, bi_min1, bi_max1, bi_max2, bi_abs, bi_sum, bi_split, idx_lst, idx_tup, Lr.sl_lst, Lr.sl_tup, and_t', and_f, or_f', or_t, blo, chain_f, chain_t, not_b, neg_i, cond_t, cond_f, rng1, rng2, list_of, part_i, seq_nx, seq_ret, seq_brk, seq_cont, if_t, if_f, own_some, own_val, own_non, sv_some, sv_none, bind_name, start0, Option.bind_some, Option.bind_none, Option.map_some, Option.map_none, List.map_cons, List.map_nil, List.length_cons, List.length_nil, List.replicate, List.cons_append, List.nil_append, List.getElem?_cons_zero, List.getElem?_cons_succ, List.set_cons_zero, List.set_cons_succ, Nat.reduceAdd, Nat.reduceSub, if_true, if_false, Bool.false_eq_true, reduceIte, decide_true, decide_false, Bool.not_true, Bool.not_false, tup_d, lst_d, sz0, sz1, sz2, sz3, sz4, sz5, bnd2, bnd2l, bnd3, set2, set3, abs_i, max2_i, lt_i, gt_i, le_i, ge_i, for_nil, sat_some, lo_nx, lo_cont, lo_brk, lo_ret, h, e]
theorem not_tup {d : PyData} (h : ∀ z, d ≠ .tuple z) : isiEv .tuple d = false := by cases d <;> first | rfl | exact absurd rfl (h _)
theorem aresteps_of (hT : T "are_steps" = some d_are_steps) (G : Glob g) (hL : L ≤ 1000) {F : PyData → Bool} {k : Nat} {deep : Int} (hF : ∀ e, Gd L m e → callAt T g fu k "is_step" [e, hsD hs, .int deep] = some (.bool (F e))) {d : PyData} (hd : Gd L m d) :
    callAt T g fu (k + 1) "are_steps" [d, hsD hs, .int deep] = some (.bool (stepsBy F d)) := by
  refine call_sat hT rfl ?_
  by_cases ht : ∃ z, d = .tuple z
  · obtain ⟨ds, rfl⟩ := ht
    obtain ⟨n, rfl, hl, he⟩ := gd_tup hd
    have hz : szOk ds.length = true := sz_ok (by omega)
    by_cases h4 : ds.length ≤ 4
    · refine ife_f ?_ (ret_sat ?_ rfl)
      · simp only [cmpl, exs, ex, ev, evs, evPart, evIt, sealE, sealIt, rd_val, rd_own, rd_succ, Lr.add_int, Lr.sub_int, bin_add, bin_sub, bin_mul, bin_fdiv, bin_mod, cmp_eq, cmp_ne, cmp_lt, cmp_le, cmp_gt, cmp_ge, cmp_in, cmp_notin, cmp_isN, cmp_isnotN, Lr.eq_int, Lr.ne_int, Lr.len_lst, Lr.len_tup, tuple_lst, tuple_tup, list_lst, list_tup, int_bl, bi_len, bi_tuple, bi_list, bi_int, bi_join, bi_any, bi_all, bi_index, bi_sorted, bi_min1, bi_max1, bi_max2, bi_abs, bi_sum, bi_split, idx_lst, idx_tup, Lr.sl_lst, Lr.sl_tup, and_t', and_f, or_f', or_t, blo, chain_f, chain_t, not_b, neg_i, cond_t, cond_f, rng1, rng2, list_of, part_i, seq_nx, seq_ret, seq_brk, seq_cont, if_t, if_f, own_some, own_val, own_non, sv_some, sv_none, bind_name, start0, Option.bind_some, Option.bind_none, Option.map_some, Option.map_none, List.map_cons, List.map_nil, List.length_cons, List.length_nil, List.replicate, List.cons_append, List.nil_append, List.getElem?_cons_zero, List.getElem?_cons_succ, List.set_cons_zero, List.set_cons_succ, Nat.reduceAdd, Nat.reduceSub, if_true, if_false, Bool.false_eq_true, reduceIte, decide_true, decide_false, Bool.not_true, Bool.not_false, tup_d, lst_d, sz0, sz1, sz2, sz3, sz4, sz5, bnd2, bnd2l, bnd3, set2, set3, abs_i, max2_i, lt_i, gt_i, le_i, ge_i, for_nil, sat_some, lo_nx, lo_cont, lo_brk, lo_ret, d_are_steps, isi_t, G.steps, decide_eq_false (show ¬ (4 : Int) < (ds.length : Nat) by omega)]
      · have e2 : ∀ f : PyData → Option (Option PyData), (∀ c ∈ ds, f c = some (some (.bool (F c)))) → lcRun f ds = some (ds.map fun c => .bool (F c)) := fun f hf => by
          have := lcRun_map (f := f) (e := id) (xs := ds) hf
          rwa [List.map_id] at this
        simp only [cmpl, exs, ex, ev, evs, evPart, evIt, sealE, sealIt, rd_val, rd_own, rd_succ, Lr.add_int, Lr.sub_int, bin_add, bin_sub, bin_mul, bin_fdiv, bin_mod, cmp_eq, cmp_ne, cmp_lt, cmp_le, cmp_gt, cmp_ge, cmp_in, cmp_notin, cmp_isN, cmp_isnotN, Lr.eq_int, Lr.ne_int, Lr.len_lst, Lr.len_tup, tuple_lst, tuple_tup, list_lst, list_tup, int_bl, bi_len, bi_tuple, bi_list, bi_int, bi_join, bi_any, bi_all, bi_index, bi_sorted, bi_min1, bi_max1, bi_max2, bi_abs, bi_sum, bi_split, idx_lst, idx_tup, Lr.sl_lst, Lr.sl_tup, and_t', and_f, or_f', or_t, blo, chain_f, chain_t, not_b, neg_i, cond_t, cond_f, rng1, rng2, list_of, part_i, seq_nx, seq_ret, seq_brk, seq_cont, if_t, if_f, own_some, own_val, own_non, sv_some, sv_none, bind_name, start0, Option.bind_some, Option.bind_none, Option.map_some, Option.map_none, List.map_cons, List.map_nil, List.length_cons, List.length_nil, List.replicate, List.cons_append, List.nil_append, List.getElem?_cons_zero, List.getElem?_cons_succ, List.set_cons_zero, List.set_cons_succ, Nat.reduceAdd, Nat.reduceSub, if_true, if_false, Bool.false_eq_true, reduceIte, decide_true, decide_false, Bool.not_true, Bool.not_false, tup_d, lst_d, sz0, sz1, sz2, sz3, sz4, sz5, bnd2, bnd2l, bnd3, set2, set3, abs_i, max2_i, lt_i, gt_i, le_i, ge_i, for_nil, sat_some, lo_nx, lo_cont, lo_brk, lo_ret, d_are_steps, seqI_tup, hz]
        rw [e2 _ fun c hc => by
          simp only [cmpl, exs, ex, ev, evs, evPart, evIt, sealE, sealIt, rd_val, rd_own, rd_succ, Lr.add_int, Lr.sub_int, bin_add, bin_sub, bin_mul, bin_fdiv, bin_mod, cmp_eq, cmp_ne, cmp_lt, cmp_le, cmp_gt, cmp_ge, cmp_in, cmp_notin, cmp_isN, cmp_isnotN, Lr.eq_int, Lr.ne_int, Lr.len_lst, Lr.len_tup, tuple_lst, tuple_tup, list_lst, list_tup, int_bl, bi_len, bi_tuple, bi_list, bi_int, bi_join, bi_any, bi_all, bi_index, bi_sorted, bi_min1, bi_max1, bi_max2, bi_abs, bi_sum, bi_split, idx_lst, idx_tup, Lr.sl_lst, Lr.sl_tup, and_t', and_f, or_f', or_t, blo, chain_f, chain_t, not_b, neg_i, cond_t, cond_f, rng1, rng2, list_of, part_i, seq_nx, seq_ret, seq_brk, seq_cont, if_t, if_f, own_some, own_val, own_non, sv_some, sv_none, bind_name, start0, Option.bind_some, Option.bind_none, Option.map_some, Option.map_none, List.map_cons, List.map_nil, List.length_cons, List.length_nil, List.replicate, List.cons_append, List.nil_append, List.getElem?_cons_zero, List.getElem?_cons_succ, List.set_cons_zero, List.set_cons_succ, Nat.reduceAdd, Nat.reduceSub, if_true, if_false, Bool.false_eq_true, reduceIte, decide_true, decide_false, Bool.not_true, Bool.not_false, tup_d, lst_d, sz0, sz1, sz2, sz3, sz4, sz5, bnd2, bnd2l, bnd3, set2, set3, abs_i, max2_i, lt_i, gt_i, le_i, ge_i, for_nil, sat_some, lo_nx, lo_cont, lo_brk, lo_ret, hF c ((he c hc).mono (Nat.le_refl _) (Nat.le_succ _))]]
        simp only [cmpl, exs, ex, ev, evs, evPart, evIt, sealE, sealIt, rd_val, rd_own, rd_succ, Lr.add_int, Lr.sub_int, bin_add, bin_sub, bin_mul, bin_fdiv, bin_mod, cmp_eq, cmp_ne, cmp_lt, cmp_le, cmp_gt, cmp_ge, cmp_in, cmp_notin, cmp_isN, cmp_isnotN, Lr.eq_int, Lr.ne_int, Lr.len_lst, Lr.len_tup, tuple_lst, tuple_tup, list_lst, list_tup, int_bl, bi_len, bi_tuple, bi_list, bi_int, bi_join, bi_any, bi_all, bi_index, bi_sorted, bi_min1, bi_max1, bi_max2, bi_abs, bi_sum, bi_split, idx_lst, idx_tup, Lr.sl_lst, Lr.sl_tup, and_t', and_f, or_f', or_t, blo, chain_f, chain_t, not_b, neg_i, cond_t, cond_f, rng1, rng2, list_of, part_i, seq_nx, seq_ret, seq_brk, seq_cont, if_t, if_f, own_some, own_val, own_non, sv_some, sv_none, bind_name, start0, Option.bind_some, Option.bind_none, Option.map_some, Option.map_none, List.map_cons, List.map_nil, List.length_cons, List.length_nil, List.replicate, List.cons_append, List.nil_append, List.getElem?_cons_zero, List.getElem?_cons_succ, List.set_cons_zero, List.set_cons_succ, Nat.reduceAdd, Nat.reduceSub, if_true, if_false, Bool.false_eq_true, reduceIte, decide_true, decide_false, Bool.not_true, Bool.not_false, tup_d, lst_d, sz0, sz1, sz2, sz3, sz4, sz5, bnd2, bnd2l, bnd3, set2, set3, abs_i, max2_i, lt_i, gt_i, le_i, ge_i, for_nil, sat_some, lo_nx, lo_cont, lo_brk, lo_ret, all_map, stepsBy, decide_eq_true h4, Bool.true_and]
    · have e : stepsBy F (.tuple ds) = false := by show (decide (ds.length ≤ 4) && ds.all F) = false; rw [decide_eq_false h4]; rfl
      rw [e]
      refine ife_t ?_ (ret_sat rfl rfl)
      simp only [cmpl, exs, ex, ev, evs, evPart, evIt, sealE, sealIt, rd_val, rd_own, rd_succ, Lr.add_int, Lr.sub_int, bin_add, bin_sub, bin_mul, bin_fdiv, bin_mod, cmp_eq, cmp_ne, cmp_lt, cmp_le, cmp_gt, cmp_ge, cmp_in, cmp_notin, cmp_isN, cmp_isnotN, Lr.eq_int, Lr.ne_int, Lr.len_lst, Lr.len_tup, tuple_lst, tuple_tup, list_lst, list_tup, int_bl, bi_len, bi_tuple, bi_list, bi_int, bi_join, bi_any, bi_all, bi_index, bi_sorted, bi_min1, bi_max1, bi_max2, bi_abs, bi_sum, bi_split, idx_lst, idx_tup, Lr.sl_lst, Lr.sl_tup, and_t', and_f, or_f', or_t, blo, chain_f, chain_t, not_b, neg_i, cond_t, cond_f, rng1, rng2, list_of, part_i, seq_nx, seq_ret, seq_brk, seq_cont, if_t, if_f, own_some, own_val, own_non, sv_some, sv_none, bind_name, start0, Option.bind_some, Option.bind_none, Option.map_some, Option.map_none, List.map_cons, List.map_nil, List.length_cons, List.length_nil, List.replicate, List.cons_append, List.nil_append, List.getElem?_cons_zero, List.getElem?_cons_succ, List.set_cons_zero, List.set_cons_succ, Nat.reduceAdd, Nat.reduceSub, if_true, if_false, Bool.false_eq_true, reduceIte, decide_true, decide_false, Bool.not_true, Bool.not_false, tup_d, lst_d, sz0, sz1, sz2, sz3, sz4, sz5, bnd2, bnd2l, bnd3, set2, set3, abs_i, max2_i, lt_i, gt_i, le_i, ge_i, for_nil, sat_some, lo_nx, lo_cont, lo_brk, lo_ret, d_are_steps, isi_t, G.steps, decide_eq_true (show (4 : Int) < (ds.length : Nat) by omega)]
  · have h := not_tup (d := d) fun z e => ht ⟨z, e⟩
    have e : stepsBy F d = false := by cases d <;> first | rfl | cases h
    rw [e]
    refine ife_t ?_ (ret_sat rfl rfl)
    simp only [cmpl, exs, ex, ev, evs, evPart, evIt, sealE, sealIt, rd_val, rd_own, rd_succ, Lr.add_int, Lr.sub_int, bin_add, bin_sub, bin_mul, bin_fdiv, bin_mod, cmp_eq, cmp_ne, cmp_lt, cmp_le, cmp_gt, cmp_ge, cmp_in, cmp_notin, cmp_isN, cmp_isnotN, Lr.eq_int, Lr.ne_int, Lr.len_lst, Lr.len_tup, tuple_lst, tuple_tup, list_lst, list_tup, int_bl, bi_len, bi_tuple, bi_list, bi_int, bi_join, bi_any, bi_all, bi_index, bi_sorted, bi_min1, bi_max1, bi_max2, bi_abs, bi_sum, bi_split, idx_lst, idx_tup, Lr.sl_lst, Lr.sl_tup, and_t', and_f, or_f', or_t, blo, chain_f, chain_t, not_b, neg_i, cond_t, cond_f, rng1, rng2, list_of, part_i, seq_nx, seq_ret, seq_brk, seq_cont, if_t, if_f, own_some, own_val, own_non, sv_some, sv_none, bind_name, start0, Option.bind_some, Option.bind_none, Option.map_some, Option.map_none, List.map_cons, List.map_nil, List.length_cons, List.length_nil, List.replicate, List.cons_append, List.nil_append, List.getElem?_cons_zero, List.getElem?_cons_succ, List.set_cons_zero, List.set_cons_succ, Nat.reduceAdd, Nat.reduceSub, if_true, if_false, Bool.false_eq_true, reduceIte, decide_true, decide_false, Bool.not_true, Bool.not_false, tup_d, lst_d, sz0, sz1, sz2, sz3, sz4, sz5, bnd2, bnd2l, bnd3, set2, set3, abs_i, max2_i, lt_i, gt_i, le_i, ge_i, for_nil, sat_some, lo_nx, lo_cont, lo_brk, lo_ret, d_are_steps, h]
structure AsT (T : Tab) : Prop where
  name : T "is_name" = some d_is_name
  hand : T "is_hand" = some d_is_hand
  step : T "is_step" = some d_is_step
  steps : T "are_steps" = some d_are_steps
theorem kwok : PyData.strOk "tell" = true ∧ PyData.strOk "choice" = true ∧ PyData.strOk "round" = true ∧ PyData.strOk "both" = true := by decide +kernel
theorem stepW_no {F : Option (PyData → Bool)} {x : PyData} {r : List PyData} (h : isiEv .str x = false) : stepW hs F (.tuple (x :: r)) = false := by cases x <;> first | rfl | cases h
theorem stepW_tell {F : Option (PyData → Bool)} {r : List PyData} : stepW hs F (.tuple (.str "tell" :: r)) = tellB hs r := by
  unfold stepW; simp
theorem stepW_none {w : Str} {r : List PyData} (h : w ≠ "tell") : stepW hs none (.tuple (.str w :: r)) = false := by
  show (if w = "tell" then _ else _) = _
  rw [if_neg h]
theorem stepW_some {F : PyData → Bool} {w : Str} {r : List PyData} (h : w ≠ "tell") : stepW hs (some F) (.tuple (.str w :: r)) = frameB F w r := by
  show (if w = "tell" then _ else _) = _
  rw [if_neg h]
theorem frame_nil {F : PyData → Bool} {w : Str} : frameB F w [] = false := by
  unfold frameB
  split
  · rfl
  · split
    · rfl
    · split <;> rfl
theorem stepW_one {F : Option (PyData → Bool)} {x : PyData} : stepW hs F (.tuple [x]) = false := by
  cases x with
  | str w =>
    by_cases h : w = "tell"
    · subst h; rw [stepW_tell]; rfl
    · cases F with
      | none => exact stepW_none h
      | some F => rw [stepW_some h, frame_nil]
  | _ => rfl
def Down (T : Tab) (g : Str → Option PyData) (fu L m : Nat) (hs : List Str) (f : Str) (j : Nat) (deep : Int) (F : Option (PyData → Bool)) : Prop :=
  (deep = 0 ∧ F = none) ∨ ∃ F', F = some F' ∧ 0 < deep ∧ ∀ {e}, Gd L m e → callAt T g fu j f [e, hsD hs, .int (deep - 1)] = some (.bool (stepsBy F' e))
theorem isstep_step (A : AsT T) (G : Glob g) (hL : L ≤ 1000) (hn : ∀ x ∈ hs, NameOk x) {j : Nat} {deep : Int} {F : Option (PyData → Bool)} (hj : 1 ≤ j) (hF : Down T g fu L m hs "are_steps" j deep F) {d : PyData} (hd : Gd L m d) :
    callAt T g fu (j + 1) "is_step" [d, hsD hs, .int deep] = some (.bool (stepW hs F d)) := by
  refine call_sat A.step rfl ?_
  by_cases ht : ∃ z, d = .tuple z
  case neg =>
    have h := not_tup (d := d) fun z e => ht ⟨z, e⟩
    refine ife_t (by simp only [cmpl, exs, ex, ev, evs, evPart, evIt, sealE, sealIt, rd_val, rd_own, rd_succ, Lr.add_int, Lr.sub_int, bin_add, bin_sub, bin_mul, bin_fdiv, bin_mod, cmp_eq, cmp_ne, cmp_lt, cmp_le, cmp_gt, cmp_ge, cmp_in, cmp_notin, cmp_isN, cmp_isnotN, Lr.eq_int, Lr.ne_int, Lr.len_lst, Lr.len_tup, tuple_lst, tuple_tup, list_lst, list_tup, int_bl, bi_len, bi_tuple, bi_list, bi_int, bi_join, bi_any, bi_all, bi_index, bi_sorted, bi_min1, bi_max1, bi_max2, bi_abs, bi_sum, bi_split, idx_lst, idx_tup, Lr.sl_lst, Lr.sl_tup, and_t', and_f, or_f', or_t, blo, chain_f, chain_t, not_b, neg_i, cond_t, cond_f, rng1, rng2, list_of, part_i, seq_nx, seq_ret, seq_brk, seq_cont, if_t, if_f, own_some, own_val, own_non, sv_some, sv_none, bind_name, start0, Option.bind_some, Option.bind_none, Option.map_some, Option.map_none, List.map_cons, List.map_nil, List.length_cons, List.length_nil, List.replicate, List.cons_append, List.nil_append, List.getElem?_cons_zero, List.getElem?_cons_succ, List.set_cons_zero, List.set_cons_succ, Nat.reduceAdd, Nat.reduceSub, if_true, if_false, Bool.false_eq_true, reduceIte, decide_true, decide_false, Bool.not_true, Bool.not_false, tup_d, lst_d, sz0, sz1, sz2, sz3, sz4, sz5, bnd2, bnd2l, bnd3, set2, set3, abs_i, max2_i, lt_i, gt_i, le_i, ge_i, for_nil, sat_some, lo_nx, lo_cont, lo_brk, lo_ret, d_is_step, h]) (ret_sat rfl ?_)
    cases d <;> first | rfl | cases h
  obtain ⟨ds, rfl⟩ := ht
  obtain ⟨n, rfl, hl, he⟩ := gd_tup hd
  have he' : ∀ e ∈ ds, Gd L (n + 1) e := fun e h => (he e h).mono (Nat.le_refl _) (Nat.le_succ _)
  clear hd he
  match ds, hl, he' with
  | [], hl, he' => exact ife_t (by simp only [cmpl, exs, ex, ev, evs, evPart, evIt, sealE, sealIt, rd_val, rd_own, rd_succ, Lr.add_int, Lr.sub_int, bin_add, bin_sub, bin_mul, bin_fdiv, bin_mod, cmp_eq, cmp_ne, cmp_lt, cmp_le, cmp_gt, cmp_ge, cmp_in, cmp_notin, cmp_isN, cmp_isnotN, Lr.eq_int, Lr.ne_int, Lr.len_lst, Lr.len_tup, tuple_lst, tuple_tup, list_lst, list_tup, int_bl, bi_len, bi_tuple, bi_list, bi_int, bi_join, bi_any, bi_all, bi_index, bi_sorted, bi_min1, bi_max1, bi_max2, bi_abs, bi_sum, bi_split, idx_lst, idx_tup, Lr.sl_lst, Lr.sl_tup, and_t', and_f, or_f', or_t, blo, chain_f, chain_t, not_b, neg_i, cond_t, cond_f, rng1, rng2, list_of, part_i, seq_nx, seq_ret, seq_brk, seq_cont, if_t, if_f, own_some, own_val, own_non, sv_some, sv_none, bind_name, start0, Option.bind_some, Option.bind_none, Option.map_some, Option.map_none, List.map_cons, List.map_nil, List.length_cons, List.length_nil, List.replicate, List.cons_append, List.nil_append, List.getElem?_cons_zero, List.getElem?_cons_succ, List.set_cons_zero, List.set_cons_succ, Nat.reduceAdd, Nat.reduceSub, if_true, if_false, Bool.false_eq_true, reduceIte, decide_true, decide_false, Bool.not_true, Bool.not_false, tup_d, lst_d, sz0, sz1, sz2, sz3, sz4, sz5, bnd2, bnd2l, bnd3, set2, set3, abs_i, max2_i, lt_i, gt_i, le_i, ge_i, for_nil, sat_some, lo_nx, lo_cont, lo_brk, lo_ret, d_is_step, isi_t]; rfl) (ret_sat rfl rfl)
  | [x], hl, he' =>
    refine ife_t (by simp only [cmpl, exs, ex, ev, evs, evPart, evIt, sealE, sealIt, rd_val, rd_own, rd_succ, Lr.add_int, Lr.sub_int, bin_add, bin_sub, bin_mul, bin_fdiv, bin_mod, cmp_eq, cmp_ne, cmp_lt, cmp_le, cmp_gt, cmp_ge, cmp_in, cmp_notin, cmp_isN, cmp_isnotN, Lr.eq_int, Lr.ne_int, Lr.len_lst, Lr.len_tup, tuple_lst, tuple_tup, list_lst, list_tup, int_bl, bi_len, bi_tuple, bi_list, bi_int, bi_join, bi_any, bi_all, bi_index, bi_sorted, bi_min1, bi_max1, bi_max2, bi_abs, bi_sum, bi_split, idx_lst, idx_tup, Lr.sl_lst, Lr.sl_tup, and_t', and_f, or_f', or_t, blo, chain_f, chain_t, not_b, neg_i, cond_t, cond_f, rng1, rng2, list_of, part_i, seq_nx, seq_ret, seq_brk, seq_cont, if_t, if_f, own_some, own_val, own_non, sv_some, sv_none, bind_name, start0, Option.bind_some, Option.bind_none, Option.map_some, Option.map_none, List.map_cons, List.map_nil, List.length_cons, List.length_nil, List.replicate, List.cons_append, List.nil_append, List.getElem?_cons_zero, List.getElem?_cons_succ, List.set_cons_zero, List.set_cons_succ, Nat.reduceAdd, Nat.reduceSub, if_true, if_false, Bool.false_eq_true, reduceIte, decide_true, decide_false, Bool.not_true, Bool.not_false, tup_d, lst_d, sz0, sz1, sz2, sz3, sz4, sz5, bnd2, bnd2l, bnd3, set2, set3, abs_i, max2_i, lt_i, gt_i, le_i, ge_i, for_nil, sat_some, lo_nx, lo_cont, lo_brk, lo_ret, d_is_step, isi_t]; rfl) (ret_sat rfl ?_)
    rw [stepW_one]
  | x :: y :: r, hl, he' =>
    have h2 : decide (((r.length + 1 + 1 : Nat) : Int) < 2) = false := decide_eq_false (by omega)
    by_cases hx : ∃ w, x = .str w
    case neg =>
      have h := not_str (d := x) fun z e => hx ⟨z, e⟩
      refine ife_t (by simp only [cmpl, exs, ex, ev, evs, evPart, evIt, sealE, sealIt, rd_val, rd_own, rd_succ, Lr.add_int, Lr.sub_int, bin_add, bin_sub, bin_mul, bin_fdiv, bin_mod, cmp_eq, cmp_ne, cmp_lt, cmp_le, cmp_gt, cmp_ge, cmp_in, cmp_notin, cmp_isN, cmp_isnotN, Lr.eq_int, Lr.ne_int, Lr.len_lst, Lr.len_tup, tuple_lst, tuple_tup, list_lst, list_tup, int_bl, bi_len, bi_tuple, bi_list, bi_int, bi_join, bi_any, bi_all, bi_index, bi_sorted, bi_min1, bi_max1, bi_max2, bi_abs, bi_sum, bi_split, idx_lst, idx_tup, Lr.sl_lst, Lr.sl_tup, and_t', and_f, or_f', or_t, blo, chain_f, chain_t, not_b, neg_i, cond_t, cond_f, rng1, rng2, list_of, part_i, seq_nx, seq_ret, seq_brk, seq_cont, if_t, if_f, own_some, own_val, own_non, sv_some, sv_none, bind_name, start0, Option.bind_some, Option.bind_none, Option.map_some, Option.map_none, List.map_cons, List.map_nil, List.length_cons, List.length_nil, List.replicate, List.cons_append, List.nil_append, List.getElem?_cons_zero, List.getElem?_cons_succ, List.set_cons_zero, List.set_cons_succ, Nat.reduceAdd, Nat.reduceSub, if_true, if_false, Bool.false_eq_true, reduceIte, decide_true, decide_false, Bool.not_true, Bool.not_false, tup_d, lst_d, sz0, sz1, sz2, sz3, sz4, sz5, bnd2, bnd2l, bnd3, set2, set3, abs_i, max2_i, lt_i, gt_i, le_i, ge_i, for_nil, sat_some, lo_nx, lo_cont, lo_brk, lo_ret, d_is_step, isi_t, h2, ax0, h]) (ret_sat rfl ?_)
      rw [stepW_no h]
    obtain ⟨w, rfl⟩ := hx
    have hw : PyData.strOk w = true := by have := he' (.str w) (by simp); unfold Gd at this; exact this.1
    have hy := he' y (by simp)
    refine ife_f (by simp only [cmpl, exs, ex, ev, evs, evPart, evIt, sealE, sealIt, rd_val, rd_own, rd_succ, Lr.add_int, Lr.sub_int, bin_add, bin_sub, bin_mul, bin_fdiv, bin_mod, cmp_eq, cmp_ne, cmp_lt, cmp_le, cmp_gt, cmp_ge, cmp_in, cmp_notin, cmp_isN, cmp_isnotN, Lr.eq_int, Lr.ne_int, Lr.len_lst, Lr.len_tup, tuple_lst, tuple_tup, list_lst, list_tup, int_bl, bi_len, bi_tuple, bi_list, bi_int, bi_join, bi_any, bi_all, bi_index, bi_sorted, bi_min1, bi_max1, bi_max2, bi_abs, bi_sum, bi_split, idx_lst, idx_tup, Lr.sl_lst, Lr.sl_tup, and_t', and_f, or_f', or_t, blo, chain_f, chain_t, not_b, neg_i, cond_t, cond_f, rng1, rng2, list_of, part_i, seq_nx, seq_ret, seq_brk, seq_cont, if_t, if_f, own_some, own_val, own_non, sv_some, sv_none, bind_name, start0, Option.bind_some, Option.bind_none, Option.map_some, Option.map_none, List.map_cons, List.map_nil, List.length_cons, List.length_nil, List.replicate, List.cons_append, List.nil_append, List.getElem?_cons_zero, List.getElem?_cons_succ, List.set_cons_zero, List.set_cons_succ, Nat.reduceAdd, Nat.reduceSub, if_true, if_false, Bool.false_eq_true, reduceIte, decide_true, decide_false, Bool.not_true, Bool.not_false, tup_d, lst_d, sz0, sz1, sz2, sz3, sz4, sz5, bnd2, bnd2l, bnd3, set2, set3, abs_i, max2_i, lt_i, gt_i, le_i, ge_i, for_nil, sat_some, lo_nx, lo_cont, lo_brk, lo_ret, d_is_step, isi_t, h2, ax0, isi_s]) ?_
    refine stp_sat (by simp only [cmpl, exs, ex, ev, evs, evPart, evIt, sealE, sealIt, rd_val, rd_own, rd_succ, Lr.add_int, Lr.sub_int, bin_add, bin_sub, bin_mul, bin_fdiv, bin_mod, cmp_eq, cmp_ne, cmp_lt, cmp_le, cmp_gt, cmp_ge, cmp_in, cmp_notin, cmp_isN, cmp_isnotN, Lr.eq_int, Lr.ne_int, Lr.len_lst, Lr.len_tup, tuple_lst, tuple_tup, list_lst, list_tup, int_bl, bi_len, bi_tuple, bi_list, bi_int, bi_join, bi_any, bi_all, bi_index, bi_sorted, bi_min1, bi_max1, bi_max2, bi_abs, bi_sum, bi_split, idx_lst, idx_tup, Lr.sl_lst, Lr.sl_tup, and_t', and_f, or_f', or_t, blo, chain_f, chain_t, not_b, neg_i, cond_t, cond_f, rng1, rng2, list_of, part_i, seq_nx, seq_ret, seq_brk, seq_cont, if_t, if_f, own_some, own_val, own_non, sv_some, sv_none, bind_name, start0, Option.bind_some, Option.bind_none, Option.map_some, Option.map_none, List.map_cons, List.map_nil, List.length_cons, List.length_nil, List.replicate, List.cons_append, List.nil_append, List.getElem?_cons_zero, List.getElem?_cons_succ, List.set_cons_zero, List.set_cons_succ, Nat.reduceAdd, Nat.reduceSub, if_true, if_false, Bool.false_eq_true, reduceIte, decide_true, decide_false, Bool.not_true, Bool.not_false, tup_d, lst_d, sz0, sz1, sz2, sz3, sz4, sz5, bnd2, bnd2l, bnd3, set2, set3, abs_i, max2_i, lt_i, gt_i, le_i, ge_i, for_nil, sat_some, lo_nx, lo_cont, lo_brk, lo_ret, d_is_step, ax0]; rfl) ?_
    by_cases w1 : w = "tell"
    · refine ife_t (by simp only [cmpl, exs, ex, ev, evs, evPart, evIt, sealE, sealIt, rd_val, rd_own, rd_succ, Lr.add_int, Lr.sub_int, bin_add, bin_sub, bin_mul, bin_fdiv, bin_mod, cmp_eq, cmp_ne, cmp_lt, cmp_le, cmp_gt, cmp_ge, cmp_in, cmp_notin, cmp_isN, cmp_isnotN, Lr.eq_int, Lr.ne_int, Lr.len_lst, Lr.len_tup, tuple_lst, tuple_tup, list_lst, list_tup, int_bl, bi_len, bi_tuple, bi_list, bi_int, bi_join, bi_any, bi_all, bi_index, bi_sorted, bi_min1, bi_max1, bi_max2, bi_abs, bi_sum, bi_split, idx_lst, idx_tup, Lr.sl_lst, Lr.sl_tup, and_t', and_f, or_f', or_t, blo, chain_f, chain_t, not_b, neg_i, cond_t, cond_f, rng1, rng2, list_of, part_i, seq_nx, seq_ret, seq_brk, seq_cont, if_t, if_f, own_some, own_val, own_non, sv_some, sv_none, bind_name, start0, Option.bind_some, Option.bind_none, Option.map_some, Option.map_none, List.map_cons, List.map_nil, List.length_cons, List.length_nil, List.replicate, List.cons_append, List.nil_append, List.getElem?_cons_zero, List.getElem?_cons_succ, List.set_cons_zero, List.set_cons_succ, Nat.reduceAdd, Nat.reduceSub, if_true, if_false, Bool.false_eq_true, reduceIte, decide_true, decide_false, Bool.not_true, Bool.not_false, tup_d, lst_d, sz0, sz1, sz2, sz3, sz4, sz5, bnd2, bnd2l, bnd3, set2, set3, abs_i, max2_i, lt_i, gt_i, le_i, ge_i, for_nil, sat_some, lo_nx, lo_cont, lo_brk, lo_ret, d_is_step, eq_str hw kwok.1, decide_eq_true w1]) (ret_sat ?_ rfl)
      subst w1
      rw [stepW_tell]
      match r, hl, he' with
      | [], _, _ => simp only [cmpl, exs, ex, ev, evs, evPart, evIt, sealE, sealIt, rd_val, rd_own, rd_succ, Lr.add_int, Lr.sub_int, bin_add, bin_sub, bin_mul, bin_fdiv, bin_mod, cmp_eq, cmp_ne, cmp_lt, cmp_le, cmp_gt, cmp_ge, cmp_in, cmp_notin, cmp_isN, cmp_isnotN, Lr.eq_int, Lr.ne_int, Lr.len_lst, Lr.len_tup, tuple_lst, tuple_tup, list_lst, list_tup, int_bl, bi_len, bi_tuple, bi_list, bi_int, bi_join, bi_any, bi_all, bi_index, bi_sorted, bi_min1, bi_max1, bi_max2, bi_abs, bi_sum, bi_split, idx_lst, idx_tup, Lr.sl_lst, Lr.sl_tup, and_t', and_f, or_f', or_t, blo, chain_f, chain_t, not_b, neg_i, cond_t, cond_f, rng1, rng2, list_of, part_i, seq_nx, seq_ret, seq_brk, seq_cont, if_t, if_f, own_some, own_val, own_non, sv_some, sv_none, bind_name, start0, Option.bind_some, Option.bind_none, Option.map_some, Option.map_none, List.map_cons, List.map_nil, List.length_cons, List.length_nil, List.replicate, List.cons_append, List.nil_append, List.getElem?_cons_zero, List.getElem?_cons_succ, List.set_cons_zero, List.set_cons_succ, Nat.reduceAdd, Nat.reduceSub, if_true, if_false, Bool.false_eq_true, reduceIte, decide_true, decide_false, Bool.not_true, Bool.not_false, tup_d, lst_d, sz0, sz1, sz2, sz3, sz4, sz5, bnd2, bnd2l, bnd3, set2, set3, abs_i, max2_i, lt_i, gt_i, le_i, ge_i, for_nil, sat_some, lo_nx, lo_cont, lo_brk, lo_ret, d_is_step]; rfl
      | [a], _, _ => simp only [cmpl, exs, ex, ev, evs, evPart, evIt, sealE, sealIt, rd_val, rd_own, rd_succ, Lr.add_int, Lr.sub_int, bin_add, bin_sub, bin_mul, bin_fdiv, bin_mod, cmp_eq, cmp_ne, cmp_lt, cmp_le, cmp_gt, cmp_ge, cmp_in, cmp_notin, cmp_isN, cmp_isnotN, Lr.eq_int, Lr.ne_int, Lr.len_lst, Lr.len_tup, tuple_lst, tuple_tup, list_lst, list_tup, int_bl, bi_len, bi_tuple, bi_list, bi_int, bi_join, bi_any, bi_all, bi_index, bi_sorted, bi_min1, bi_max1, bi_max2, bi_abs, bi_sum, bi_split, idx_lst, idx_tup, Lr.sl_lst, Lr.sl_tup, and_t', and_f, or_f', or_t, blo, chain_f, chain_t, not_b, neg_i, cond_t, cond_f, rng1, rng2, list_of, part_i, seq_nx, seq_ret, seq_brk, seq_cont, if_t, if_f, own_some, own_val, own_non, sv_some, sv_none, bind_name, start0, Option.bind_some, Option.bind_none, Option.map_some, Option.map_none, List.map_cons, List.map_nil, List.length_cons, List.length_nil, List.replicate, List.cons_append, List.nil_append, List.getElem?_cons_zero, List.getElem?_cons_succ, List.set_cons_zero, List.set_cons_succ, Nat.reduceAdd, Nat.reduceSub, if_true, if_false, Bool.false_eq_true, reduceIte, decide_true, decide_false, Bool.not_true, Bool.not_false, tup_d, lst_d, sz0, sz1, sz2, sz3, sz4, sz5, bnd2, bnd2l, bnd3, set2, set3, abs_i, max2_i, lt_i, gt_i, le_i, ge_i, for_nil, sat_some, lo_nx, lo_cont, lo_brk, lo_ret, d_is_step]; rfl
      | [a, b], hl, he' =>
        simp only [cmpl, exs, ex, ev, evs, evPart, evIt, sealE, sealIt, rd_val, rd_own, rd_succ, Lr.add_int, Lr.sub_int, bin_add, bin_sub, bin_mul, bin_fdiv, bin_mod, cmp_eq, cmp_ne, cmp_lt, cmp_le, cmp_gt, cmp_ge, cmp_in, cmp_notin, cmp_isN, cmp_isnotN, Lr.eq_int, Lr.ne_int, Lr.len_lst, Lr.len_tup, tuple_lst, tuple_tup, list_lst, list_tup, int_bl, bi_len, bi_tuple, bi_list, bi_int, bi_join, bi_any, bi_all, bi_index, bi_sorted, bi_min1, bi_max1, bi_max2, bi_abs, bi_sum, bi_split, idx_lst, idx_tup, Lr.sl_lst, Lr.sl_tup, and_t', and_f, or_f', or_t, blo, chain_f, chain_t, not_b, neg_i, cond_t, cond_f, rng1, rng2, list_of, part_i, seq_nx, seq_ret, seq_brk, seq_cont, if_t, if_f, own_some, own_val, own_non, sv_some, sv_none, bind_name, start0, Option.bind_some, Option.bind_none, Option.map_some, Option.map_none, List.map_cons, List.map_nil, List.length_cons, List.length_nil, List.replicate, List.cons_append, List.nil_append, List.getElem?_cons_zero, List.getElem?_cons_succ, List.set_cons_zero, List.set_cons_succ, Nat.reduceAdd, Nat.reduceSub, if_true, if_false, Bool.false_eq_true, reduceIte, decide_true, decide_false, Bool.not_true, Bool.not_false, tup_d, lst_d, sz0, sz1, sz2, sz3, sz4, sz5, bnd2, bnd2l, bnd3, set2, set3, abs_i, max2_i, lt_i, gt_i, le_i, ge_i, for_nil, sat_some, lo_nx, lo_cont, lo_brk, lo_ret, d_is_step, ax1, ax2, ax3, ishand_ok A.hand hn hy hj, ishand_ok A.hand hn (he' a (by simp)) hj, isname_ok A.name G (he' b (by simp)) hj]
        show _ = some (PyData.bool (handB hs y && (handB hs a && nameB b)))
        cases handB hs y <;> cases handB hs a <;> cases nameB b <;> rfl
      | a :: b :: c :: r, hl, he' =>
        have : decide (((r.length + 1 + 1 + 1 + 1 + 1 : Nat) : Int) = 4) = false := decide_eq_false (by omega)
        simp only [cmpl, exs, ex, ev, evs, evPart, evIt, sealE, sealIt, rd_val, rd_own, rd_succ, Lr.add_int, Lr.sub_int, bin_add, bin_sub, bin_mul, bin_fdiv, bin_mod, cmp_eq, cmp_ne, cmp_lt, cmp_le, cmp_gt, cmp_ge, cmp_in, cmp_notin, cmp_isN, cmp_isnotN, Lr.eq_int, Lr.ne_int, Lr.len_lst, Lr.len_tup, tuple_lst, tuple_tup, list_lst, list_tup, int_bl, bi_len, bi_tuple, bi_list, bi_int, bi_join, bi_any, bi_all, bi_index, bi_sorted, bi_min1, bi_max1, bi_max2, bi_abs, bi_sum, bi_split, idx_lst, idx_tup, Lr.sl_lst, Lr.sl_tup, and_t', and_f, or_f', or_t, blo, chain_f, chain_t, not_b, neg_i, cond_t, cond_f, rng1, rng2, list_of, part_i, seq_nx, seq_ret, seq_brk, seq_cont, if_t, if_f, own_some, own_val, own_non, sv_some, sv_none, bind_name, start0, Option.bind_some, Option.bind_none, Option.map_some, Option.map_none, List.map_cons, List.map_nil, List.length_cons, List.length_nil, List.replicate, List.cons_append, List.nil_append, List.getElem?_cons_zero, List.getElem?_cons_succ, List.set_cons_zero, List.set_cons_succ, Nat.reduceAdd, Nat.reduceSub, if_true, if_false, Bool.false_eq_true, reduceIte, decide_true, decide_false, Bool.not_true, Bool.not_false, tup_d, lst_d, sz0, sz1, sz2, sz3, sz4, sz5, bnd2, bnd2l, bnd3, set2, set3, abs_i, max2_i, lt_i, gt_i, le_i, ge_i, for_nil, sat_some, lo_nx, lo_cont, lo_brk, lo_ret, d_is_step, this]
        rfl
    refine ife_f (by simp only [cmpl, exs, ex, ev, evs, evPart, evIt, sealE, sealIt, rd_val, rd_own, rd_succ, Lr.add_int, Lr.sub_int, bin_add, bin_sub, bin_mul, bin_fdiv, bin_mod, cmp_eq, cmp_ne, cmp_lt, cmp_le, cmp_gt, cmp_ge, cmp_in, cmp_notin, cmp_isN, cmp_isnotN, Lr.eq_int, Lr.ne_int, Lr.len_lst, Lr.len_tup, tuple_lst, tuple_tup, list_lst, list_tup, int_bl, bi_len, bi_tuple, bi_list, bi_int, bi_join, bi_any, bi_all, bi_index, bi_sorted, bi_min1, bi_max1, bi_max2, bi_abs, bi_sum, bi_split, idx_lst, idx_tup, Lr.sl_lst, Lr.sl_tup, and_t', and_f, or_f', or_t, blo, chain_f, chain_t, not_b, neg_i, cond_t, cond_f, rng1, rng2, list_of, part_i, seq_nx, seq_ret, seq_brk, seq_cont, if_t, if_f, own_some, own_val, own_non, sv_some, sv_none, bind_name, start0, Option.bind_some, Option.bind_none, Option.map_some, Option.map_none, List.map_cons, List.map_nil, List.length_cons, List.length_nil, List.replicate, List.cons_append, List.nil_append, List.getElem?_cons_zero, List.getElem?_cons_succ, List.set_cons_zero, List.set_cons_succ, Nat.reduceAdd, Nat.reduceSub, if_true, if_false, Bool.false_eq_true, reduceIte, decide_true, decide_false, Bool.not_true, Bool.not_false, tup_d, lst_d, sz0, sz1, sz2, sz3, sz4, sz5, bnd2, bnd2l, bnd3, set2, set3, abs_i, max2_i, lt_i, gt_i, le_i, ge_i, for_nil, sat_some, lo_nx, lo_cont, lo_brk, lo_ret, d_is_step, eq_str hw kwok.1, decide_eq_false w1]) ?_
    rcases hF with ⟨rfl, rfl⟩ | ⟨F', rfl, hdp, hA⟩
    · refine ife_t (by simp only [cmpl, exs, ex, ev, evs, evPart, evIt, sealE, sealIt, rd_val, rd_own, rd_succ, Lr.add_int, Lr.sub_int, bin_add, bin_sub, bin_mul, bin_fdiv, bin_mod, cmp_eq, cmp_ne, cmp_lt, cmp_le, cmp_gt, cmp_ge, cmp_in, cmp_notin, cmp_isN, cmp_isnotN, Lr.eq_int, Lr.ne_int, Lr.len_lst, Lr.len_tup, tuple_lst, tuple_tup, list_lst, list_tup, int_bl, bi_len, bi_tuple, bi_list, bi_int, bi_join, bi_any, bi_all, bi_index, bi_sorted, bi_min1, bi_max1, bi_max2, bi_abs, bi_sum, bi_split, idx_lst, idx_tup, Lr.sl_lst, Lr.sl_tup, and_t', and_f, or_f', or_t, blo, chain_f, chain_t, not_b, neg_i, cond_t, cond_f, rng1, rng2, list_of, part_i, seq_nx, seq_ret, seq_brk, seq_cont, if_t, if_f, own_some, own_val, own_non, sv_some, sv_none, bind_name, start0, Option.bind_some, Option.bind_none, Option.map_some, Option.map_none, List.map_cons, List.map_nil, List.length_cons, List.length_nil, List.replicate, List.cons_append, List.nil_append, List.getElem?_cons_zero, List.getElem?_cons_succ, List.set_cons_zero, List.set_cons_succ, Nat.reduceAdd, Nat.reduceSub, if_true, if_false, Bool.false_eq_true, reduceIte, decide_true, decide_false, Bool.not_true, Bool.not_false, tup_d, lst_d, sz0, sz1, sz2, sz3, sz4, sz5, bnd2, bnd2l, bnd3, set2, set3, abs_i, max2_i, lt_i, gt_i, le_i, ge_i, for_nil, sat_some, lo_nx, lo_cont, lo_brk, lo_ret, d_is_step]) (ret_sat rfl ?_)
      rw [stepW_none w1]
    rw [stepW_some w1]
    have hd0 : decide (deep = 0) = false := decide_eq_false (by omega)
    refine ife_f (by simp only [cmpl, exs, ex, ev, evs, evPart, evIt, sealE, sealIt, rd_val, rd_own, rd_succ, Lr.add_int, Lr.sub_int, bin_add, bin_sub, bin_mul, bin_fdiv, bin_mod, cmp_eq, cmp_ne, cmp_lt, cmp_le, cmp_gt, cmp_ge, cmp_in, cmp_notin, cmp_isN, cmp_isnotN, Lr.eq_int, Lr.ne_int, Lr.len_lst, Lr.len_tup, tuple_lst, tuple_tup, list_lst, list_tup, int_bl, bi_len, bi_tuple, bi_list, bi_int, bi_join, bi_any, bi_all, bi_index, bi_sorted, bi_min1, bi_max1, bi_max2, bi_abs, bi_sum, bi_split, idx_lst, idx_tup, Lr.sl_lst, Lr.sl_tup, and_t', and_f, or_f', or_t, blo, chain_f, chain_t, not_b, neg_i, cond_t, cond_f, rng1, rng2, list_of, part_i, seq_nx, seq_ret, seq_brk, seq_cont, if_t, if_f, own_some, own_val, own_non, sv_some, sv_none, bind_name, start0, Option.bind_some, Option.bind_none, Option.map_some, Option.map_none, List.map_cons, List.map_nil, List.length_cons, List.length_nil, List.replicate, List.cons_append, List.nil_append, List.getElem?_cons_zero, List.getElem?_cons_succ, List.set_cons_zero, List.set_cons_succ, Nat.reduceAdd, Nat.reduceSub, if_true, if_false, Bool.false_eq_true, reduceIte, decide_true, decide_false, Bool.not_true, Bool.not_false, tup_d, lst_d, sz0, sz1, sz2, sz3, sz4, sz5, bnd2, bnd2l, bnd3, set2, set3, abs_i, max2_i, lt_i, gt_i, le_i, ge_i, for_nil, sat_some, lo_nx, lo_cont, lo_brk, lo_ret, d_is_step, hd0]) ?_
    have eA : ∀ (xs : List PyData), (∀ e ∈ xs, Gd L (n + 1) e) → ∀ f : PyData → Option (Option PyData), (∀ c, Gd L (n + 1) c → f c = some (some (.bool (stepsBy F' c)))) → lcRun f xs = some (xs.map fun c => .bool (stepsBy F' c)) := fun xs hx f hf => by
      have := lcRun_map (f := f) (e := id) (xs := xs) fun c hc => hf c (hx c hc)
      rwa [List.map_id] at this
    by_cases w2 : w = "choice"
    · refine ife_t (by simp only [cmpl, exs, ex, ev, evs, evPart, evIt, sealE, sealIt, rd_val, rd_own, rd_succ, Lr.add_int, Lr.sub_int, bin_add, bin_sub, bin_mul, bin_fdiv, bin_mod, cmp_eq, cmp_ne, cmp_lt, cmp_le, cmp_gt, cmp_ge, cmp_in, cmp_notin, cmp_isN, cmp_isnotN, Lr.eq_int, Lr.ne_int, Lr.len_lst, Lr.len_tup, tuple_lst, tuple_tup, list_lst, list_tup, int_bl, bi_len, bi_tuple, bi_list, bi_int, bi_join, bi_any, bi_all, bi_index, bi_sorted, bi_min1, bi_max1, bi_max2, bi_abs, bi_sum, bi_split, idx_lst, idx_tup, Lr.sl_lst, Lr.sl_tup, and_t', and_f, or_f', or_t, blo, chain_f, chain_t, not_b, neg_i, cond_t, cond_f, rng1, rng2, list_of, part_i, seq_nx, seq_ret, seq_brk, seq_cont, if_t, if_f, own_some, own_val, own_non, sv_some, sv_none, bind_name, start0, Option.bind_some, Option.bind_none, Option.map_some, Option.map_none, List.map_cons, List.map_nil, List.length_cons, List.length_nil, List.replicate, List.cons_append, List.nil_append, List.getElem?_cons_zero, List.getElem?_cons_succ, List.set_cons_zero, List.set_cons_succ, Nat.reduceAdd, Nat.reduceSub, if_true, if_false, Bool.false_eq_true, reduceIte, decide_true, decide_false, Bool.not_true, Bool.not_false, tup_d, lst_d, sz0, sz1, sz2, sz3, sz4, sz5, bnd2, bnd2l, bnd3, set2, set3, abs_i, max2_i, lt_i, gt_i, le_i, ge_i, for_nil, sat_some, lo_nx, lo_cont, lo_brk, lo_ret, d_is_step, eq_str hw kwok.2.1, decide_eq_true w2]) ?_
      have hfr : ∀ r, frameB F' w r = oneBy (partsBy F') r := fun r => by unfold frameB; rw [if_pos w2]
      rw [hfr]
      match r, hl, he' with
      | a :: r, hl, he' =>
        have : decide (((r.length + 1 + 1 + 1 : Nat) : Int) = 2) = false := decide_eq_false (by omega)
        exact ife_t (by simp only [cmpl, exs, ex, ev, evs, evPart, evIt, sealE, sealIt, rd_val, rd_own, rd_succ, Lr.add_int, Lr.sub_int, bin_add, bin_sub, bin_mul, bin_fdiv, bin_mod, cmp_eq, cmp_ne, cmp_lt, cmp_le, cmp_gt, cmp_ge, cmp_in, cmp_notin, cmp_isN, cmp_isnotN, Lr.eq_int, Lr.ne_int, Lr.len_lst, Lr.len_tup, tuple_lst, tuple_tup, list_lst, list_tup, int_bl, bi_len, bi_tuple, bi_list, bi_int, bi_join, bi_any, bi_all, bi_index, bi_sorted, bi_min1, bi_max1, bi_max2, bi_abs, bi_sum, bi_split, idx_lst, idx_tup, Lr.sl_lst, Lr.sl_tup, and_t', and_f, or_f', or_t, blo, chain_f, chain_t, not_b, neg_i, cond_t, cond_f, rng1, rng2, list_of, part_i, seq_nx, seq_ret, seq_brk, seq_cont, if_t, if_f, own_some, own_val, own_non, sv_some, sv_none, bind_name, start0, Option.bind_some, Option.bind_none, Option.map_some, Option.map_none, List.map_cons, List.map_nil, List.length_cons, List.length_nil, List.replicate, List.cons_append, List.nil_append, List.getElem?_cons_zero, List.getElem?_cons_succ, List.set_cons_zero, List.set_cons_succ, Nat.reduceAdd, Nat.reduceSub, if_true, if_false, Bool.false_eq_true, reduceIte, decide_true, decide_false, Bool.not_true, Bool.not_false, tup_d, lst_d, sz0, sz1, sz2, sz3, sz4, sz5, bnd2, bnd2l, bnd3, set2, set3, abs_i, max2_i, lt_i, gt_i, le_i, ge_i, for_nil, sat_some, lo_nx, lo_cont, lo_brk, lo_ret, d_is_step, this]) (ret_sat rfl rfl)
      | [], hl, he' =>
        by_cases hp : ∃ z, y = .tuple z
        case neg =>
          have h := not_tup (d := y) fun z e => hp ⟨z, e⟩
          refine ife_t (by simp only [cmpl, exs, ex, ev, evs, evPart, evIt, sealE, sealIt, rd_val, rd_own, rd_succ, Lr.add_int, Lr.sub_int, bin_add, bin_sub, bin_mul, bin_fdiv, bin_mod, cmp_eq, cmp_ne, cmp_lt, cmp_le, cmp_gt, cmp_ge, cmp_in, cmp_notin, cmp_isN, cmp_isnotN, Lr.eq_int, Lr.ne_int, Lr.len_lst, Lr.len_tup, tuple_lst, tuple_tup, list_lst, list_tup, int_bl, bi_len, bi_tuple, bi_list, bi_int, bi_join, bi_any, bi_all, bi_index, bi_sorted, bi_min1, bi_max1, bi_max2, bi_abs, bi_sum, bi_split, idx_lst, idx_tup, Lr.sl_lst, Lr.sl_tup, and_t', and_f, or_f', or_t, blo, chain_f, chain_t, not_b, neg_i, cond_t, cond_f, rng1, rng2, list_of, part_i, seq_nx, seq_ret, seq_brk, seq_cont, if_t, if_f, own_some, own_val, own_non, sv_some, sv_none, bind_name, start0, Option.bind_some, Option.bind_none, Option.map_some, Option.map_none, List.map_cons, List.map_nil, List.length_cons, List.length_nil, List.replicate, List.cons_append, List.nil_append, List.getElem?_cons_zero, List.getElem?_cons_succ, List.set_cons_zero, List.set_cons_succ, Nat.reduceAdd, Nat.reduceSub, if_true, if_false, Bool.false_eq_true, reduceIte, decide_true, decide_false, Bool.not_true, Bool.not_false, tup_d, lst_d, sz0, sz1, sz2, sz3, sz4, sz5, bnd2, bnd2l, bnd3, set2, set3, abs_i, max2_i, lt_i, gt_i, le_i, ge_i, for_nil, sat_some, lo_nx, lo_cont, lo_brk, lo_ret, d_is_step, ax1, h]; rfl) (ret_sat rfl ?_)
          have : partsBy F' y = false := by cases y <;> first | rfl | cases h
          show Out.ret _ = .ret (.bool (partsBy F' y))
          rw [this]
        obtain ⟨ps, rfl⟩ := hp
        show Sat _ fun o => o = .ret (.bool (decide (1 ≤ ps.length ∧ ps.length ≤ 3) && ps.all (stepsBy F')))
        obtain ⟨n', e1, hpl, hpe⟩ := gd_tup hy
        have hpe' : ∀ e ∈ ps, Gd L (n + 1) e := fun e h => (hpe e h).mono (Nat.le_refl _) (by omega)
        by_cases q1 : 1 ≤ ps.length
        · by_cases q2 : ps.length ≤ 3
          · refine ife_f (by simp only [cmpl, exs, ex, ev, evs, evPart, evIt, sealE, sealIt, rd_val, rd_own, rd_succ, Lr.add_int, Lr.sub_int, bin_add, bin_sub, bin_mul, bin_fdiv, bin_mod, cmp_eq, cmp_ne, cmp_lt, cmp_le, cmp_gt, cmp_ge, cmp_in, cmp_notin, cmp_isN, cmp_isnotN, Lr.eq_int, Lr.ne_int, Lr.len_lst, Lr.len_tup, tuple_lst, tuple_tup, list_lst, list_tup, int_bl, bi_len, bi_tuple, bi_list, bi_int, bi_join, bi_any, bi_all, bi_index, bi_sorted, bi_min1, bi_max1, bi_max2, bi_abs, bi_sum, bi_split, idx_lst, idx_tup, Lr.sl_lst, Lr.sl_tup, and_t', and_f, or_f', or_t, blo, chain_f, chain_t, not_b, neg_i, cond_t, cond_f, rng1, rng2, list_of, part_i, seq_nx, seq_ret, seq_brk, seq_cont, if_t, if_f, own_some, own_val, own_non, sv_some, sv_none, bind_name, start0, Option.bind_some, Option.bind_none, Option.map_some, Option.map_none, List.map_cons, List.map_nil, List.length_cons, List.length_nil, List.replicate, List.cons_append, List.nil_append, List.getElem?_cons_zero, List.getElem?_cons_succ, List.set_cons_zero, List.set_cons_succ, Nat.reduceAdd, Nat.reduceSub, if_true, if_false, Bool.false_eq_true, reduceIte, decide_true, decide_false, Bool.not_true, Bool.not_false, tup_d, lst_d, sz0, sz1, sz2, sz3, sz4, sz5, bnd2, bnd2l, bnd3, set2, set3, abs_i, max2_i, lt_i, gt_i, le_i, ge_i, for_nil, sat_some, lo_nx, lo_cont, lo_brk, lo_ret, d_is_step, ax1, isi_t, G.branches, decide_eq_true (show (1 : Int) ≤ (ps.length : Nat) by omega), decide_eq_true (show ((ps.length : Nat) : Int) ≤ 3 by omega)]; rfl) (ret_sat ?_ rfl)
            simp only [cmpl, exs, ex, ev, evs, evPart, evIt, sealE, sealIt, rd_val, rd_own, rd_succ, Lr.add_int, Lr.sub_int, bin_add, bin_sub, bin_mul, bin_fdiv, bin_mod, cmp_eq, cmp_ne, cmp_lt, cmp_le, cmp_gt, cmp_ge, cmp_in, cmp_notin, cmp_isN, cmp_isnotN, Lr.eq_int, Lr.ne_int, Lr.len_lst, Lr.len_tup, tuple_lst, tuple_tup, list_lst, list_tup, int_bl, bi_len, bi_tuple, bi_list, bi_int, bi_join, bi_any, bi_all, bi_index, bi_sorted, bi_min1, bi_max1, bi_max2, bi_abs, bi_sum, bi_split, idx_lst, idx_tup, Lr.sl_lst, Lr.sl_tup, and_t', and_f, or_f', or_t, blo, chain_f, chain_t, not_b, neg_i, cond_t, cond_f, rng1, rng2, list_of, part_i, seq_nx, seq_ret, seq_brk, seq_cont, if_t, if_f, own_some, own_val, own_non, sv_some, sv_none, bind_name, start0, Option.bind_some, Option.bind_none, Option.map_some, Option.map_none, List.map_cons, List.map_nil, List.length_cons, List.length_nil, List.replicate, List.cons_append, List.nil_append, List.getElem?_cons_zero, List.getElem?_cons_succ, List.set_cons_zero, List.set_cons_succ, Nat.reduceAdd, Nat.reduceSub, if_true, if_false, Bool.false_eq_true, reduceIte, decide_true, decide_false, Bool.not_true, Bool.not_false, tup_d, lst_d, sz0, sz1, sz2, sz3, sz4, sz5, bnd2, bnd2l, bnd3, set2, set3, abs_i, max2_i, lt_i, gt_i, le_i, ge_i, for_nil, sat_some, lo_nx, lo_cont, lo_brk, lo_ret, d_is_step, ax1, seqI_tup, sz_ok (show ps.length ≤ 16777216 by omega)]
            rw [eA ps hpe' _ fun c hc => by simp only [cmpl, exs, ex, ev, evs, evPart, evIt, sealE, sealIt, rd_val, rd_own, rd_succ, Lr.add_int, Lr.sub_int, bin_add, bin_sub, bin_mul, bin_fdiv, bin_mod, cmp_eq, cmp_ne, cmp_lt, cmp_le, cmp_gt, cmp_ge, cmp_in, cmp_notin, cmp_isN, cmp_isnotN, Lr.eq_int, Lr.ne_int, Lr.len_lst, Lr.len_tup, tuple_lst, tuple_tup, list_lst, list_tup, int_bl, bi_len, bi_tuple, bi_list, bi_int, bi_join, bi_any, bi_all, bi_index, bi_sorted, bi_min1, bi_max1, bi_max2, bi_abs, bi_sum, bi_split, idx_lst, idx_tup, Lr.sl_lst, Lr.sl_tup, and_t', and_f, or_f', or_t, blo, chain_f, chain_t, not_b, neg_i, cond_t, cond_f, rng1, rng2, list_of, part_i, seq_nx, seq_ret, seq_brk, seq_cont, if_t, if_f, own_some, own_val, own_non, sv_some, sv_none, bind_name, start0, Option.bind_some, Option.bind_none, Option.map_some, Option.map_none, List.map_cons, List.map_nil, List.length_cons, List.length_nil, List.replicate, List.cons_append, List.nil_append, List.getElem?_cons_zero, List.getElem?_cons_succ, List.set_cons_zero, List.set_cons_succ, Nat.reduceAdd, Nat.reduceSub, if_true, if_false, Bool.false_eq_true, reduceIte, decide_true, decide_false, Bool.not_true, Bool.not_false, tup_d, lst_d, sz0, sz1, sz2, sz3, sz4, sz5, bnd2, bnd2l, bnd3, set2, set3, abs_i, max2_i, lt_i, gt_i, le_i, ge_i, for_nil, sat_some, lo_nx, lo_cont, lo_brk, lo_ret, hA hc]]
            simp only [cmpl, exs, ex, ev, evs, evPart, evIt, sealE, sealIt, rd_val, rd_own, rd_succ, Lr.add_int, Lr.sub_int, bin_add, bin_sub, bin_mul, bin_fdiv, bin_mod, cmp_eq, cmp_ne, cmp_lt, cmp_le, cmp_gt, cmp_ge, cmp_in, cmp_notin, cmp_isN, cmp_isnotN, Lr.eq_int, Lr.ne_int, Lr.len_lst, Lr.len_tup, tuple_lst, tuple_tup, list_lst, list_tup, int_bl, bi_len, bi_tuple, bi_list, bi_int, bi_join, bi_any, bi_all, bi_index, bi_sorted, bi_min1, bi_max1, bi_max2, bi_abs, bi_sum, bi_split, idx_lst, idx_tup, Lr.sl_lst, Lr.sl_tup, and_t', and_f, or_f', or_t, blo, chain_f, chain_t, not_b, neg_i, cond_t, cond_f, rng1, rng2, list_of, part_i, seq_nx, seq_ret, seq_brk, seq_cont, if_t, if_f, own_some, own_val, own_non, sv_some, sv_none, bind_name, start0, Option.bind_some, Option.bind_none, Option.map_some, Option.map_none, List.map_cons, List.map_nil, List.length_cons, List.length_nil, List.replicate, List.cons_append, List.nil_append, List.getElem?_cons_zero, List.getElem?_cons_succ, List.set_cons_zero, List.set_cons_succ, Nat.reduceAdd, Nat.reduceSub, if_true, if_false, Bool.false_eq_true, reduceIte, decide_true, decide_false, Bool.not_true, Bool.not_false, tup_d, lst_d, sz0, sz1, sz2, sz3, sz4, sz5, bnd2, bnd2l, bnd3, set2, set3, abs_i, max2_i, lt_i, gt_i, le_i, ge_i, for_nil, sat_some, lo_nx, lo_cont, lo_brk, lo_ret, all_map]
            rw [decide_eq_true ⟨q1, q2⟩, Bool.true_and]
          · rw [decide_eq_false fun h : 1 ≤ ps.length ∧ ps.length ≤ 3 => q2 h.2]
            exact ife_t (by simp only [cmpl, exs, ex, ev, evs, evPart, evIt, sealE, sealIt, rd_val, rd_own, rd_succ, Lr.add_int, Lr.sub_int, bin_add, bin_sub, bin_mul, bin_fdiv, bin_mod, cmp_eq, cmp_ne, cmp_lt, cmp_le, cmp_gt, cmp_ge, cmp_in, cmp_notin, cmp_isN, cmp_isnotN, Lr.eq_int, Lr.ne_int, Lr.len_lst, Lr.len_tup, tuple_lst, tuple_tup, list_lst, list_tup, int_bl, bi_len, bi_tuple, bi_list, bi_int, bi_join, bi_any, bi_all, bi_index, bi_sorted, bi_min1, bi_max1, bi_max2, bi_abs, bi_sum, bi_split, idx_lst, idx_tup, Lr.sl_lst, Lr.sl_tup, and_t', and_f, or_f', or_t, blo, chain_f, chain_t, not_b, neg_i, cond_t, cond_f, rng1, rng2, list_of, part_i, seq_nx, seq_ret, seq_brk, seq_cont, if_t, if_f, own_some, own_val, own_non, sv_some, sv_none, bind_name, start0, Option.bind_some, Option.bind_none, Option.map_some, Option.map_none, List.map_cons, List.map_nil, List.length_cons, List.length_nil, List.replicate, List.cons_append, List.nil_append, List.getElem?_cons_zero, List.getElem?_cons_succ, List.set_cons_zero, List.set_cons_succ, Nat.reduceAdd, Nat.reduceSub, if_true, if_false, Bool.false_eq_true, reduceIte, decide_true, decide_false, Bool.not_true, Bool.not_false, tup_d, lst_d, sz0, sz1, sz2, sz3, sz4, sz5, bnd2, bnd2l, bnd3, set2, set3, abs_i, max2_i, lt_i, gt_i, le_i, ge_i, for_nil, sat_some, lo_nx, lo_cont, lo_brk, lo_ret, d_is_step, ax1, isi_t, G.branches, decide_eq_true (show (1 : Int) ≤ (ps.length : Nat) by omega), decide_eq_false (show ¬ ((ps.length : Nat) : Int) ≤ 3 by omega)]; rfl) (ret_sat rfl rfl)
        · rw [decide_eq_false fun h : 1 ≤ ps.length ∧ ps.length ≤ 3 => q1 h.1]
          exact ife_t (by simp only [cmpl, exs, ex, ev, evs, evPart, evIt, sealE, sealIt, rd_val, rd_own, rd_succ, Lr.add_int, Lr.sub_int, bin_add, bin_sub, bin_mul, bin_fdiv, bin_mod, cmp_eq, cmp_ne, cmp_lt, cmp_le, cmp_gt, cmp_ge, cmp_in, cmp_notin, cmp_isN, cmp_isnotN, Lr.eq_int, Lr.ne_int, Lr.len_lst, Lr.len_tup, tuple_lst, tuple_tup, list_lst, list_tup, int_bl, bi_len, bi_tuple, bi_list, bi_int, bi_join, bi_any, bi_all, bi_index, bi_sorted, bi_min1, bi_max1, bi_max2, bi_abs, bi_sum, bi_split, idx_lst, idx_tup, Lr.sl_lst, Lr.sl_tup, and_t', and_f, or_f', or_t, blo, chain_f, chain_t, not_b, neg_i, cond_t, cond_f, rng1, rng2, list_of, part_i, seq_nx, seq_ret, seq_brk, seq_cont, if_t, if_f, own_some, own_val, own_non, sv_some, sv_none, bind_name, start0, Option.bind_some, Option.bind_none, Option.map_some, Option.map_none, List.map_cons, List.map_nil, List.length_cons, List.length_nil, List.replicate, List.cons_append, List.nil_append, List.getElem?_cons_zero, List.getElem?_cons_succ, List.set_cons_zero, List.set_cons_succ, Nat.reduceAdd, Nat.reduceSub, if_true, if_false, Bool.false_eq_true, reduceIte, decide_true, decide_false, Bool.not_true, Bool.not_false, tup_d, lst_d, sz0, sz1, sz2, sz3, sz4, sz5, bnd2, bnd2l, bnd3, set2, set3, abs_i, max2_i, lt_i, gt_i, le_i, ge_i, for_nil, sat_some, lo_nx, lo_cont, lo_brk, lo_ret, d_is_step, ax1, isi_t, G.branches, decide_eq_false (show ¬ (1 : Int) ≤ (ps.length : Nat) by omega)]; rfl) (ret_sat rfl rfl)
    refine ife_f (by simp only [cmpl, exs, ex, ev, evs, evPart, evIt, sealE, sealIt, rd_val, rd_own, rd_succ, Lr.add_int, Lr.sub_int, bin_add, bin_sub, bin_mul, bin_fdiv, bin_mod, cmp_eq, cmp_ne, cmp_lt, cmp_le, cmp_gt, cmp_ge, cmp_in, cmp_notin, cmp_isN, cmp_isnotN, Lr.eq_int, Lr.ne_int, Lr.len_lst, Lr.len_tup, tuple_lst, tuple_tup, list_lst, list_tup, int_bl, bi_len, bi_tuple, bi_list, bi_int, bi_join, bi_any, bi_all, bi_index, bi_sorted, bi_min1, bi_max1, bi_max2, bi_abs, bi_sum, bi_split, idx_lst, idx_tup, Lr.sl_lst, Lr.sl_tup, and_t', and_f, or_f', or_t, blo, chain_f, chain_t, not_b, neg_i, cond_t, cond_f, rng1, rng2, list_of, part_i, seq_nx, seq_ret, seq_brk, seq_cont, if_t, if_f, own_some, own_val, own_non, sv_some, sv_none, bind_name, start0, Option.bind_some, Option.bind_none, Option.map_some, Option.map_none, List.map_cons, List.map_nil, List.length_cons, List.length_nil, List.replicate, List.cons_append, List.nil_append, List.getElem?_cons_zero, List.getElem?_cons_succ, List.set_cons_zero, List.set_cons_succ, Nat.reduceAdd, Nat.reduceSub, if_true, if_false, Bool.false_eq_true, reduceIte, decide_true, decide_false, Bool.not_true, Bool.not_false, tup_d, lst_d, sz0, sz1, sz2, sz3, sz4, sz5, bnd2, bnd2l, bnd3, set2, set3, abs_i, max2_i, lt_i, gt_i, le_i, ge_i, for_nil, sat_some, lo_nx, lo_cont, lo_brk, lo_ret, d_is_step, eq_str hw kwok.2.1, decide_eq_false w2]) ?_
    by_cases w3 : w = "round"
    · have hfr : ∀ r, frameB F' w r = oneBy (stepsBy F') r := fun r => by unfold frameB; rw [if_neg w2, if_pos w3]
      rw [hfr]
      refine ife_t (by simp only [cmpl, exs, ex, ev, evs, evPart, evIt, sealE, sealIt, rd_val, rd_own, rd_succ, Lr.add_int, Lr.sub_int, bin_add, bin_sub, bin_mul, bin_fdiv, bin_mod, cmp_eq, cmp_ne, cmp_lt, cmp_le, cmp_gt, cmp_ge, cmp_in, cmp_notin, cmp_isN, cmp_isnotN, Lr.eq_int, Lr.ne_int, Lr.len_lst, Lr.len_tup, tuple_lst, tuple_tup, list_lst, list_tup, int_bl, bi_len, bi_tuple, bi_list, bi_int, bi_join, bi_any, bi_all, bi_index, bi_sorted, bi_min1, bi_max1, bi_max2, bi_abs, bi_sum, bi_split, idx_lst, idx_tup, Lr.sl_lst, Lr.sl_tup, and_t', and_f, or_f', or_t, blo, chain_f, chain_t, not_b, neg_i, cond_t, cond_f, rng1, rng2, list_of, part_i, seq_nx, seq_ret, seq_brk, seq_cont, if_t, if_f, own_some, own_val, own_non, sv_some, sv_none, bind_name, start0, Option.bind_some, Option.bind_none, Option.map_some, Option.map_none, List.map_cons, List.map_nil, List.length_cons, List.length_nil, List.replicate, List.cons_append, List.nil_append, List.getElem?_cons_zero, List.getElem?_cons_succ, List.set_cons_zero, List.set_cons_succ, Nat.reduceAdd, Nat.reduceSub, if_true, if_false, Bool.false_eq_true, reduceIte, decide_true, decide_false, Bool.not_true, Bool.not_false, tup_d, lst_d, sz0, sz1, sz2, sz3, sz4, sz5, bnd2, bnd2l, bnd3, set2, set3, abs_i, max2_i, lt_i, gt_i, le_i, ge_i, for_nil, sat_some, lo_nx, lo_cont, lo_brk, lo_ret, d_is_step, eq_str hw kwok.2.2.1, decide_eq_true w3]) (ret_sat ?_ rfl)
      match r, hl, he' with
      | a :: r, hl, he' =>
        have : decide (((r.length + 1 + 1 + 1 : Nat) : Int) = 2) = false := decide_eq_false (by omega)
        simp only [cmpl, exs, ex, ev, evs, evPart, evIt, sealE, sealIt, rd_val, rd_own, rd_succ, Lr.add_int, Lr.sub_int, bin_add, bin_sub, bin_mul, bin_fdiv, bin_mod, cmp_eq, cmp_ne, cmp_lt, cmp_le, cmp_gt, cmp_ge, cmp_in, cmp_notin, cmp_isN, cmp_isnotN, Lr.eq_int, Lr.ne_int, Lr.len_lst, Lr.len_tup, tuple_lst, tuple_tup, list_lst, list_tup, int_bl, bi_len, bi_tuple, bi_list, bi_int, bi_join, bi_any, bi_all, bi_index, bi_sorted, bi_min1, bi_max1, bi_max2, bi_abs, bi_sum, bi_split, idx_lst, idx_tup, Lr.sl_lst, Lr.sl_tup, and_t', and_f, or_f', or_t, blo, chain_f, chain_t, not_b, neg_i, cond_t, cond_f, rng1, rng2, list_of, part_i, seq_nx, seq_ret, seq_brk, seq_cont, if_t, if_f, own_some, own_val, own_non, sv_some, sv_none, bind_name, start0, Option.bind_some, Option.bind_none, Option.map_some, Option.map_none, List.map_cons, List.map_nil, List.length_cons, List.length_nil, List.replicate, List.cons_append, List.nil_append, List.getElem?_cons_zero, List.getElem?_cons_succ, List.set_cons_zero, List.set_cons_succ, Nat.reduceAdd, Nat.reduceSub, if_true, if_false, Bool.false_eq_true, reduceIte, decide_true, decide_false, Bool.not_true, Bool.not_false, tup_d, lst_d, sz0, sz1, sz2, sz3, sz4, sz5, bnd2, bnd2l, bnd3, set2, set3, abs_i, max2_i, lt_i, gt_i, le_i, ge_i, for_nil, sat_some, lo_nx, lo_cont, lo_brk, lo_ret, d_is_step, this]; rfl
      | [], hl, he' =>
        simp only [cmpl, exs, ex, ev, evs, evPart, evIt, sealE, sealIt, rd_val, rd_own, rd_succ, Lr.add_int, Lr.sub_int, bin_add, bin_sub, bin_mul, bin_fdiv, bin_mod, cmp_eq, cmp_ne, cmp_lt, cmp_le, cmp_gt, cmp_ge, cmp_in, cmp_notin, cmp_isN, cmp_isnotN, Lr.eq_int, Lr.ne_int, Lr.len_lst, Lr.len_tup, tuple_lst, tuple_tup, list_lst, list_tup, int_bl, bi_len, bi_tuple, bi_list, bi_int, bi_join, bi_any, bi_all, bi_index, bi_sorted, bi_min1, bi_max1, bi_max2, bi_abs, bi_sum, bi_split, idx_lst, idx_tup, Lr.sl_lst, Lr.sl_tup, and_t', and_f, or_f', or_t, blo, chain_f, chain_t, not_b, neg_i, cond_t, cond_f, rng1, rng2, list_of, part_i, seq_nx, seq_ret, seq_brk, seq_cont, if_t, if_f, own_some, own_val, own_non, sv_some, sv_none, bind_name, start0, Option.bind_some, Option.bind_none, Option.map_some, Option.map_none, List.map_cons, List.map_nil, List.length_cons, List.length_nil, List.replicate, List.cons_append, List.nil_append, List.getElem?_cons_zero, List.getElem?_cons_succ, List.set_cons_zero, List.set_cons_succ, Nat.reduceAdd, Nat.reduceSub, if_true, if_false, Bool.false_eq_true, reduceIte, decide_true, decide_false, Bool.not_true, Bool.not_false, tup_d, lst_d, sz0, sz1, sz2, sz3, sz4, sz5, bnd2, bnd2l, bnd3, set2, set3, abs_i, max2_i, lt_i, gt_i, le_i, ge_i, for_nil, sat_some, lo_nx, lo_cont, lo_brk, lo_ret, d_is_step, ax1, hA hy]
        rfl
    refine ife_f (by simp only [cmpl, exs, ex, ev, evs, evPart, evIt, sealE, sealIt, rd_val, rd_own, rd_succ, Lr.add_int, Lr.sub_int, bin_add, bin_sub, bin_mul, bin_fdiv, bin_mod, cmp_eq, cmp_ne, cmp_lt, cmp_le, cmp_gt, cmp_ge, cmp_in, cmp_notin, cmp_isN, cmp_isnotN, Lr.eq_int, Lr.ne_int, Lr.len_lst, Lr.len_tup, tuple_lst, tuple_tup, list_lst, list_tup, int_bl, bi_len, bi_tuple, bi_list, bi_int, bi_join, bi_any, bi_all, bi_index, bi_sorted, bi_min1, bi_max1, bi_max2, bi_abs, bi_sum, bi_split, idx_lst, idx_tup, Lr.sl_lst, Lr.sl_tup, and_t', and_f, or_f', or_t, blo, chain_f, chain_t, not_b, neg_i, cond_t, cond_f, rng1, rng2, list_of, part_i, seq_nx, seq_ret, seq_brk, seq_cont, if_t, if_f, own_some, own_val, own_non, sv_some, sv_none, bind_name, start0, Option.bind_some, Option.bind_none, Option.map_some, Option.map_none, List.map_cons, List.map_nil, List.length_cons, List.length_nil, List.replicate, List.cons_append, List.nil_append, List.getElem?_cons_zero, List.getElem?_cons_succ, List.set_cons_zero, List.set_cons_succ, Nat.reduceAdd, Nat.reduceSub, if_true, if_false, Bool.false_eq_true, reduceIte, decide_true, decide_false, Bool.not_true, Bool.not_false, tup_d, lst_d, sz0, sz1, sz2, sz3, sz4, sz5, bnd2, bnd2l, bnd3, set2, set3, abs_i, max2_i, lt_i, gt_i, le_i, ge_i, for_nil, sat_some, lo_nx, lo_cont, lo_brk, lo_ret, d_is_step, eq_str hw kwok.2.2.1, decide_eq_false w3]) (ret_sat ?_ rfl)
    by_cases w4 : w = "both"
    · have hfr : ∀ r, frameB F' w r = twoBy (stepsBy F') r := fun r => by unfold frameB; rw [if_neg w2, if_neg w3, if_pos w4]
      rw [hfr]
      match r, hl, he' with
      | [], hl, he' => simp only [cmpl, exs, ex, ev, evs, evPart, evIt, sealE, sealIt, rd_val, rd_own, rd_succ, Lr.add_int, Lr.sub_int, bin_add, bin_sub, bin_mul, bin_fdiv, bin_mod, cmp_eq, cmp_ne, cmp_lt, cmp_le, cmp_gt, cmp_ge, cmp_in, cmp_notin, cmp_isN, cmp_isnotN, Lr.eq_int, Lr.ne_int, Lr.len_lst, Lr.len_tup, tuple_lst, tuple_tup, list_lst, list_tup, int_bl, bi_len, bi_tuple, bi_list, bi_int, bi_join, bi_any, bi_all, bi_index, bi_sorted, bi_min1, bi_max1, bi_max2, bi_abs, bi_sum, bi_split, idx_lst, idx_tup, Lr.sl_lst, Lr.sl_tup, and_t', and_f, or_f', or_t, blo, chain_f, chain_t, not_b, neg_i, cond_t, cond_f, rng1, rng2, list_of, part_i, seq_nx, seq_ret, seq_brk, seq_cont, if_t, if_f, own_some, own_val, own_non, sv_some, sv_none, bind_name, start0, Option.bind_some, Option.bind_none, Option.map_some, Option.map_none, List.map_cons, List.map_nil, List.length_cons, List.length_nil, List.replicate, List.cons_append, List.nil_append, List.getElem?_cons_zero, List.getElem?_cons_succ, List.set_cons_zero, List.set_cons_succ, Nat.reduceAdd, Nat.reduceSub, if_true, if_false, Bool.false_eq_true, reduceIte, decide_true, decide_false, Bool.not_true, Bool.not_false, tup_d, lst_d, sz0, sz1, sz2, sz3, sz4, sz5, bnd2, bnd2l, bnd3, set2, set3, abs_i, max2_i, lt_i, gt_i, le_i, ge_i, for_nil, sat_some, lo_nx, lo_cont, lo_brk, lo_ret, d_is_step, eq_str hw kwok.2.2.2, decide_eq_true w4]; rfl
      | a :: b :: r, hl, he' =>
        have : decide (((r.length + 1 + 1 + 1 + 1 : Nat) : Int) = 3) = false := decide_eq_false (by omega)
        simp only [cmpl, exs, ex, ev, evs, evPart, evIt, sealE, sealIt, rd_val, rd_own, rd_succ, Lr.add_int, Lr.sub_int, bin_add, bin_sub, bin_mul, bin_fdiv, bin_mod, cmp_eq, cmp_ne, cmp_lt, cmp_le, cmp_gt, cmp_ge, cmp_in, cmp_notin, cmp_isN, cmp_isnotN, Lr.eq_int, Lr.ne_int, Lr.len_lst, Lr.len_tup, tuple_lst, tuple_tup, list_lst, list_tup, int_bl, bi_len, bi_tuple, bi_list, bi_int, bi_join, bi_any, bi_all, bi_index, bi_sorted, bi_min1, bi_max1, bi_max2, bi_abs, bi_sum, bi_split, idx_lst, idx_tup, Lr.sl_lst, Lr.sl_tup, and_t', and_f, or_f', or_t, blo, chain_f, chain_t, not_b, neg_i, cond_t, cond_f, rng1, rng2, list_of, part_i, seq_nx, seq_ret, seq_brk, seq_cont, if_t, if_f, own_some, own_val, own_non, sv_some, sv_none, bind_name, start0, Option.bind_some, Option.bind_none, Option.map_some, Option.map_none, List.map_cons, List.map_nil, List.length_cons, List.length_nil, List.replicate, List.cons_append, List.nil_append, List.getElem?_cons_zero, List.getElem?_cons_succ, List.set_cons_zero, List.set_cons_succ, Nat.reduceAdd, Nat.reduceSub, if_true, if_false, Bool.false_eq_true, reduceIte, decide_true, decide_false, Bool.not_true, Bool.not_false, tup_d, lst_d, sz0, sz1, sz2, sz3, sz4, sz5, bnd2, bnd2l, bnd3, set2, set3, abs_i, max2_i, lt_i, gt_i, le_i, ge_i, for_nil, sat_some, lo_nx, lo_cont, lo_brk, lo_ret, d_is_step, eq_str hw kwok.2.2.2, decide_eq_true w4, this]; rfl
      | [a], hl, he' =>
        simp only [cmpl, exs, ex, ev, evs, evPart, evIt, sealE, sealIt, rd_val, rd_own, rd_succ, Lr.add_int, Lr.sub_int, bin_add, bin_sub, bin_mul, bin_fdiv, bin_mod, cmp_eq, cmp_ne, cmp_lt, cmp_le, cmp_gt, cmp_ge, cmp_in, cmp_notin, cmp_isN, cmp_isnotN, Lr.eq_int, Lr.ne_int, Lr.len_lst, Lr.len_tup, tuple_lst, tuple_tup, list_lst, list_tup, int_bl, bi_len, bi_tuple, bi_list, bi_int, bi_join, bi_any, bi_all, bi_index, bi_sorted, bi_min1, bi_max1, bi_max2, bi_abs, bi_sum, bi_split, idx_lst, idx_tup, Lr.sl_lst, Lr.sl_tup, and_t', and_f, or_f', or_t, blo, chain_f, chain_t, not_b, neg_i, cond_t, cond_f, rng1, rng2, list_of, part_i, seq_nx, seq_ret, seq_brk, seq_cont, if_t, if_f, own_some, own_val, own_non, sv_some, sv_none, bind_name, start0, Option.bind_some, Option.bind_none, Option.map_some, Option.map_none, List.map_cons, List.map_nil, List.length_cons, List.length_nil, List.replicate, List.cons_append, List.nil_append, List.getElem?_cons_zero, List.getElem?_cons_succ, List.set_cons_zero, List.set_cons_succ, Nat.reduceAdd, Nat.reduceSub, if_true, if_false, Bool.false_eq_true, reduceIte, decide_true, decide_false, Bool.not_true, Bool.not_false, tup_d, lst_d, sz0, sz1, sz2, sz3, sz4, sz5, bnd2, bnd2l, bnd3, set2, set3, abs_i, max2_i, lt_i, gt_i, le_i, ge_i, for_nil, sat_some, lo_nx, lo_cont, lo_brk, lo_ret, d_is_step, eq_str hw kwok.2.2.2, decide_eq_true w4, cut1, seqI_tup]
        rw [eA [y, a] (fun e h => he' e (by simp at h ⊢; exact .inr h)) _ fun c hc => by simp only [cmpl, exs, ex, ev, evs, evPart, evIt, sealE, sealIt, rd_val, rd_own, rd_succ, Lr.add_int, Lr.sub_int, bin_add, bin_sub, bin_mul, bin_fdiv, bin_mod, cmp_eq, cmp_ne, cmp_lt, cmp_le, cmp_gt, cmp_ge, cmp_in, cmp_notin, cmp_isN, cmp_isnotN, Lr.eq_int, Lr.ne_int, Lr.len_lst, Lr.len_tup, tuple_lst, tuple_tup, list_lst, list_tup, int_bl, bi_len, bi_tuple, bi_list, bi_int, bi_join, bi_any, bi_all, bi_index, bi_sorted, bi_min1, bi_max1, bi_max2, bi_abs, bi_sum, bi_split, idx_lst, idx_tup, Lr.sl_lst, Lr.sl_tup, and_t', and_f, or_f', or_t, blo, chain_f, chain_t, not_b, neg_i, cond_t, cond_f, rng1, rng2, list_of, part_i, seq_nx, seq_ret, seq_brk, seq_cont, if_t, if_f, own_some, own_val, own_non, sv_some, sv_none, bind_name, start0, Option.bind_some, Option.bind_none, Option.map_some, Option.map_none, List.map_cons, List.map_nil, List.length_cons, List.length_nil, List.replicate, List.cons_append, List.nil_append, List.getElem?_cons_zero, List.getElem?_cons_succ, List.set_cons_zero, List.set_cons_succ, Nat.reduceAdd, Nat.reduceSub, if_true, if_false, Bool.false_eq_true, reduceIte, decide_true, decide_false, Bool.not_true, Bool.not_false, tup_d, lst_d, sz0, sz1, sz2, sz3, sz4, sz5, bnd2, bnd2l, bnd3, set2, set3, abs_i, max2_i, lt_i, gt_i, le_i, ge_i, for_nil, sat_some, lo_nx, lo_cont, lo_brk, lo_ret, hA hc]]
        simp only [cmpl, exs, ex, ev, evs, evPart, evIt, sealE, sealIt, rd_val, rd_own, rd_succ, Lr.add_int, Lr.sub_int, bin_add, bin_sub, bin_mul, bin_fdiv, bin_mod, cmp_eq, cmp_ne, cmp_lt, cmp_le, cmp_gt, cmp_ge, cmp_in, cmp_notin, cmp_isN, cmp_isnotN, Lr.eq_int, Lr.ne_int, Lr.len_lst, Lr.len_tup, tuple_lst, tuple_tup, list_lst, list_tup, int_bl, bi_len, bi_tuple, bi_list, bi_int, bi_join, bi_any, bi_all, bi_index, bi_sorted, bi_min1, bi_max1, bi_max2, bi_abs, bi_sum, bi_split, idx_lst, idx_tup, Lr.sl_lst, Lr.sl_tup, and_t', and_f, or_f', or_t, blo, chain_f, chain_t, not_b, neg_i, cond_t, cond_f, rng1, rng2, list_of, part_i, seq_nx, seq_ret, seq_brk, seq_cont, if_t, if_f, own_some, own_val, own_non, sv_some, sv_none, bind_name, start0, Option.bind_some, Option.bind_none, Option.map_some, Option.map_none, List.map_cons, List.map_nil, List.length_cons, List.length_nil, List.replicate, List.cons_append, List.nil_append, List.getElem?_cons_zero, List.getElem?_cons_succ, List.set_cons_zero, List.set_cons_succ, Nat.reduceAdd, Nat.reduceSub, if_true, if_false, Bool.false_eq_true, reduceIte, decide_true, decide_false, Bool.not_true, Bool.not_false, tup_d, lst_d, sz0, sz1, sz2, sz3, sz4, sz5, bnd2, bnd2l, bnd3, set2, set3, abs_i, max2_i, lt_i, gt_i, le_i, ge_i, for_nil, sat_some, lo_nx, lo_cont, lo_brk, lo_ret]
        show _ = some (PyData.bool (stepsBy F' y && stepsBy F' a))
        cases stepsBy F' y <;> cases stepsBy F' a <;> rfl
    · have hfr : ∀ r, frameB F' w r = false := fun r => by unfold frameB; rw [if_neg w2, if_neg w3, if_neg w4]
      rw [hfr]
      simp only [cmpl, exs, ex, ev, evs, evPart, evIt, sealE, sealIt, rd_val, rd_own, rd_succ, Lr.add_int, Lr.sub_int, bin_add, bin_sub, bin_mul, bin_fdiv, bin_mod, cmp_eq, cmp_ne, cmp_lt, cmp_le, cmp_gt, cmp_ge, cmp_in, cmp_notin, cmp_isN, cmp_isnotN, Lr.eq_int, Lr.ne_int, Lr.len_lst, Lr.len_tup, tuple_lst, tuple_tup, list_lst, list_tup, int_bl, bi_len, bi_tuple, bi_list, bi_int, bi_join, bi_any, bi_all, bi_index, bi_sorted, bi_min1, bi_max1, bi_max2, bi_abs, bi_sum, bi_split, idx_lst, idx_tup, Lr.sl_lst, Lr.sl_tup, and_t', and_f, or_f', or_t, blo, chain_f, chain_t, not_b, neg_i, cond_t, cond_f, rng1, rng2, list_of, part_i, seq_nx, seq_ret, seq_brk, seq_cont, if_t, if_f, own_some, own_val, own_non, sv_some, sv_none, bind_name, start0, Option.bind_some, Option.bind_none, Option.map_some, Option.map_none, List.map_cons, List.map_nil, List.length_cons, List.length_nil, List.replicate, List.cons_append, List.nil_append, List.getElem?_cons_zero, List.getElem?_cons_succ, List.set_cons_zero, List.set_cons_succ, Nat.reduceAdd, Nat.reduceSub, if_true, if_false, Bool.false_eq_true, reduceIte, decide_true, decide_false, Bool.not_true, Bool.not_false, tup_d, lst_d, sz0, sz1, sz2, sz3, sz4, sz5, bnd2, bnd2l, bnd3, set2, set3, abs_i, max2_i, lt_i, gt_i, le_i, ge_i, for_nil, sat_some, lo_nx, lo_cont, lo_brk, lo_ret, d_is_step, eq_str hw kwok.2.2.2, decide_eq_false w4]
theorem isstep_ok (A : AsT T) (G : Glob g) (hL : L ≤ 1000) (hn : ∀ x ∈ hs, NameOk x) : ∀ (deep k : Nat), 2 * deep + 2 ≤ k → ∀ {d : PyData}, Gd L m d → callAt T g fu k "is_step" [d, hsD hs, .int deep] = some (.bool (stepB hs deep d))
  | 0, k, hk, d, hd => by
    obtain ⟨j, rfl⟩ := lvl (show 1 ≤ k by omega)
    exact isstep_step A G hL hn (by omega) (.inl ⟨rfl, rfl⟩) hd
  | deep + 1, k, hk, d, hd => by
    obtain ⟨j, rfl⟩ := lvl (show 2 ≤ k by omega)
    refine isstep_step A G hL hn (j := j + 1) (by omega) (.inr ⟨stepB hs deep, rfl, by omega, fun {e} h => ?_⟩) hd
    have hd1 : ((deep + 1 : Nat) : Int) - 1 = (deep : Nat) := by omega
    rw [hd1]
    exact aresteps_of A.steps G hL (fun e he => isstep_ok A G hL hn deep j (by omega) he) h
end
end Lr
namespace Lr
open PySem PySem.Spec PyProof.Rows L2
theorem tellB_no {hs : List Str} {r : List PyData} (h : r.length ≠ 3) : tellB hs r = false := by
  match r, h with
  | [], _ => rfl
  | [_], _ => rfl
  | [_, _], _ => rfl
  | [_, _, _], h => exact absurd rfl h
  | _ :: _ :: _ :: _ :: _, _ => rfl
theorem oneBy_no {G : PyData → Bool} {r : List PyData} (h : r.length ≠ 1) : oneBy G r = false := by
  match r, h with
  | [], _ => rfl
  | [_], h => exact absurd rfl h
  | _ :: _ :: _, _ => rfl
theorem twoBy_no {G : PyData → Bool} {r : List PyData} (h : r.length ≠ 2) : twoBy G r = false := by
  match r, h with
  | [], _ => rfl
  | [_], _ => rfl
  | [_, _], h => exact absurd rfl h
  | _ :: _ :: _ :: _, _ => rfl
def want (w : Str) : Int := if w = "tell" then 4 else if w = "choice" then 2 else if w = "round" then 2 else if w = "both" then 3 else 0
theorem dl_want (w : Str) : dgetEv ["tell", "choice", "round", "both"] [.int 4, .int 2, .int 2, .int 3] (some (.int 0)) (.str w) = some (.int (want w)) := by
  show dlook _ _ w _ = _
  unfold want
  by_cases h1 : w = "tell"
  · subst h1; rfl
  by_cases h2 : w = "choice"
  · subst h2; rfl
  by_cases h3 : w = "round"
  · subst h3; rfl
  by_cases h4 : w = "both"
  · subst h4; rfl
  simp [dlook, h1, h2, h3, h4]
theorem eqtnil {m : Nat} {ds : List PyData} (h : Lay m (.tuple ds)) (hm : m ≤ 64) : eqEv (.tuple ds) (.tuple []) = some ds.isEmpty := by
  unfold eqEv
  rw [h.shaped hm]
  cases ds <;> rfl
theorem filt_self {p : PyData → Bool} {f : PyData → Option (Option PyData)} {xs : List PyData} (h : ∀ x ∈ xs, f x = some (if p x then some x else none)) : lcRun f xs = some (xs.filter p) := by
  have := lcRun_filter (f := f) (e := id) (r := id) (p := p) (xs := xs) h
  rwa [List.map_id, List.map_id] at this
theorem filt_all (p : PyData → Bool) (xs : List PyData) : (xs.filter fun x => !p x).isEmpty = xs.all p := by
  have := filt_empty p (id : PyData → PyData) xs
  rwa [List.map_id] at this
section
variable {T : Tab} {g : Str → Option PyData} {fu : Nat} {L m : Nat} {hs : List Str}
theorem lay_filt {p : PyData → Bool} {xs : List PyData} (h : ∀ e ∈ xs, Gd L m e) : Lay (m + 1) (.list (xs.filter p)) := lay_lst fun d hd => (h d (List.mem_filter.mp hd).1).lay
theorem laresteps_of (hT : T "_law_are_steps" = some d_law_are_steps) (hL : L ≤ 1000) (hm : m ≤ 63) {F : PyData → Bool} {k : Nat} {deep : Int} (hF : ∀ e, Gd L m e → callAt T g fu k "_law_is_step" [e, hsD hs, .int deep] = some (.bool (F e))) {d : PyData} (hd : Gd L (m + 1) d) :
    callAt T g fu (k + 1) "_law_are_steps" [d, hsD hs, .int deep] = some (.bool (stepsBy F d)) := by
  refine call_sat hT rfl ?_
  by_cases ht : ∃ z, d = .tuple z
  · obtain ⟨ds, rfl⟩ := ht
    unfold Gd at hd
    obtain ⟨hl, he⟩ := hd
    have hz : szOk ds.length = true := sz_ok (by omega)
    by_cases h4 : ds.length ≤ 4
    · refine ife_f ?_ (ret_sat ?_ rfl)
      · simp only [cmpl, exs, ex, ev, evs, evPart, evIt, sealE, sealIt, rd_val, rd_own, rd_succ, Lr.add_int, Lr.sub_int, bin_add, bin_sub, bin_mul, bin_fdiv, bin_mod, cmp_eq, cmp_ne, cmp_lt, cmp_le, cmp_gt, cmp_ge, cmp_in, cmp_notin, cmp_isN, cmp_isnotN, Lr.eq_int, Lr.ne_int, Lr.len_lst, Lr.len_tup, tuple_lst, tuple_tup, list_lst, list_tup, int_bl, bi_len, bi_tuple, bi_list, bi_int, bi_join, bi_any, bi_all, bi_index, bi_sorted, bi_min1, bi_max1, bi_max2, bi_abs, bi_sum, bi_split, idx_lst, idx_tup, Lr.sl_lst, Lr.sl_tup, and_t', and_f, or_f', or_t, blo, chain_f, chain_t, not_b, neg_i, cond_t, cond_f, rng1, rng2, list_of, part_i, seq_nx, seq_ret, seq_brk, seq_cont, if_t, if_f, own_some, own_val, own_non, sv_some, sv_none, bind_name, start0, Option.bind_some, Option.bind_none, Option.map_some, Option.map_none, List.map_cons, List.map_nil, List.length_cons, List.length_nil, List.replicate, List.cons_append, List.nil_append, List.getElem?_cons_zero, List.getElem?_cons_succ, List.set_cons_zero, List.set_cons_succ, Nat.reduceAdd, Nat.reduceSub, if_true, if_false, Bool.false_eq_true, reduceIte, decide_true, decide_false, Bool.not_true, Bool.not_false, tup_d, lst_d, sz0, sz1, sz2, sz3, sz4, sz5, bnd2, bnd2l, bnd3, set2, set3, abs_i, max2_i, lt_i, gt_i, le_i, ge_i, for_nil, sat_some, lo_nx, lo_cont, lo_brk, lo_ret, d_law_are_steps, isi_t, decide_eq_false (show ¬ (4 : Int) < (ds.length : Nat) by omega)]
      · simp only [cmpl, exs, ex, ev, evs, evPart, evIt, sealE, sealIt, rd_val, rd_own, rd_succ, Lr.add_int, Lr.sub_int, bin_add, bin_sub, bin_mul, bin_fdiv, bin_mod, cmp_eq, cmp_ne, cmp_lt, cmp_le, cmp_gt, cmp_ge, cmp_in, cmp_notin, cmp_isN, cmp_isnotN, Lr.eq_int, Lr.ne_int, Lr.len_lst, Lr.len_tup, tuple_lst, tuple_tup, list_lst, list_tup, int_bl, bi_len, bi_tuple, bi_list, bi_int, bi_join, bi_any, bi_all, bi_index, bi_sorted, bi_min1, bi_max1, bi_max2, bi_abs, bi_sum, bi_split, idx_lst, idx_tup, Lr.sl_lst, Lr.sl_tup, and_t', and_f, or_f', or_t, blo, chain_f, chain_t, not_b, neg_i, cond_t, cond_f, rng1, rng2, list_of, part_i, seq_nx, seq_ret, seq_brk, seq_cont, if_t, if_f, own_some, own_val, own_non, sv_some, sv_none, bind_name, start0, Option.bind_some, Option.bind_none, Option.map_some, Option.map_none, List.map_cons, List.map_nil, List.length_cons, List.length_nil, List.replicate, List.cons_append, List.nil_append, List.getElem?_cons_zero, List.getElem?_cons_succ, List.set_cons_zero, List.set_cons_succ, Nat.reduceAdd, Nat.reduceSub, if_true, if_false, Bool.false_eq_true, reduceIte, decide_true, decide_false, Bool.not_true, Bool.not_false, tup_d, lst_d, sz0, sz1, sz2, sz3, sz4, sz5, bnd2, bnd2l, bnd3, set2, set3, abs_i, max2_i, lt_i, gt_i, le_i, ge_i, for_nil, sat_some, lo_nx, lo_cont, lo_brk, lo_ret, d_law_are_steps, seqI_tup, hz]
        rw [filt_self (p := fun e => !F e) fun c hc => by
          simp only [cmpl, exs, ex, ev, evs, evPart, evIt, sealE, sealIt, rd_val, rd_own, rd_succ, Lr.add_int, Lr.sub_int, bin_add, bin_sub, bin_mul, bin_fdiv, bin_mod, cmp_eq, cmp_ne, cmp_lt, cmp_le, cmp_gt, cmp_ge, cmp_in, cmp_notin, cmp_isN, cmp_isnotN, Lr.eq_int, Lr.ne_int, Lr.len_lst, Lr.len_tup, tuple_lst, tuple_tup, list_lst, list_tup, int_bl, bi_len, bi_tuple, bi_list, bi_int, bi_join, bi_any, bi_all, bi_index, bi_sorted, bi_min1, bi_max1, bi_max2, bi_abs, bi_sum, bi_split, idx_lst, idx_tup, Lr.sl_lst, Lr.sl_tup, and_t', and_f, or_f', or_t, blo, chain_f, chain_t, not_b, neg_i, cond_t, cond_f, rng1, rng2, list_of, part_i, seq_nx, seq_ret, seq_brk, seq_cont, if_t, if_f, own_some, own_val, own_non, sv_some, sv_none, bind_name, start0, Option.bind_some, Option.bind_none, Option.map_some, Option.map_none, List.map_cons, List.map_nil, List.length_cons, List.length_nil, List.replicate, List.cons_append, List.nil_append, List.getElem?_cons_zero, List.getElem?_cons_succ, List.set_cons_zero, List.set_cons_succ, Nat.reduceAdd, Nat.reduceSub, if_true, if_false, Bool.false_eq_true, reduceIte, decide_true, decide_false, Bool.not_true, Bool.not_false, tup_d, lst_d, sz0, sz1, sz2, sz3, sz4, sz5, bnd2, bnd2l, bnd3, set2, set3, abs_i, max2_i, lt_i, gt_i, le_i, ge_i, for_nil, sat_some, lo_nx, lo_cont, lo_brk, lo_ret, hF c (he c hc)]
          cases F c <;> rfl]
        simp only [cmpl, exs, ex, ev, evs, evPart, evIt, sealE, sealIt, rd_val, rd_own, rd_succ, Lr.add_int, Lr.sub_int, bin_add, bin_sub, bin_mul, bin_fdiv, bin_mod, cmp_eq, cmp_ne, cmp_lt, cmp_le, cmp_gt, cmp_ge, cmp_in, cmp_notin, cmp_isN, cmp_isnotN, Lr.eq_int, Lr.ne_int, Lr.len_lst, Lr.len_tup, tuple_lst, tuple_tup, list_lst, list_tup, int_bl, bi_len, bi_tuple, bi_list, bi_int, bi_join, bi_any, bi_all, bi_index, bi_sorted, bi_min1, bi_max1, bi_max2, bi_abs, bi_sum, bi_split, idx_lst, idx_tup, Lr.sl_lst, Lr.sl_tup, and_t', and_f, or_f', or_t, blo, chain_f, chain_t, not_b, neg_i, cond_t, cond_f, rng1, rng2, list_of, part_i, seq_nx, seq_ret, seq_brk, seq_cont, if_t, if_f, own_some, own_val, own_non, sv_some, sv_none, bind_name, start0, Option.bind_some, Option.bind_none, Option.map_some, Option.map_none, List.map_cons, List.map_nil, List.length_cons, List.length_nil, List.replicate, List.cons_append, List.nil_append, List.getElem?_cons_zero, List.getElem?_cons_succ, List.set_cons_zero, List.set_cons_succ, Nat.reduceAdd, Nat.reduceSub, if_true, if_false, Bool.false_eq_true, reduceIte, decide_true, decide_false, Bool.not_true, Bool.not_false, tup_d, lst_d, sz0, sz1, sz2, sz3, sz4, sz5, bnd2, bnd2l, bnd3, set2, set3, abs_i, max2_i, lt_i, gt_i, le_i, ge_i, for_nil, sat_some, lo_nx, lo_cont, lo_brk, lo_ret, eqnil (lay_filt he) (show m + 1 ≤ 64 by omega), filt_all, stepsBy, decide_eq_true h4, Bool.true_and]
    · have e : stepsBy F (.tuple ds) = false := by show (decide (ds.length ≤ 4) && ds.all F) = false; rw [decide_eq_false h4]; rfl
      rw [e]
      refine ife_t ?_ (ret_sat rfl rfl)
      simp only [cmpl, exs, ex, ev, evs, evPart, evIt, sealE, sealIt, rd_val, rd_own, rd_succ, Lr.add_int, Lr.sub_int, bin_add, bin_sub, bin_mul, bin_fdiv, bin_mod, cmp_eq, cmp_ne, cmp_lt, cmp_le, cmp_gt, cmp_ge, cmp_in, cmp_notin, cmp_isN, cmp_isnotN, Lr.eq_int, Lr.ne_int, Lr.len_lst, Lr.len_tup, tuple_lst, tuple_tup, list_lst, list_tup, int_bl, bi_len, bi_tuple, bi_list, bi_int, bi_join, bi_any, bi_all, bi_index, bi_sorted, bi_min1, bi_max1, bi_max2, bi_abs, bi_sum, bi_split, idx_lst, idx_tup, Lr.sl_lst, Lr.sl_tup, and_t', and_f, or_f', or_t, blo, chain_f, chain_t, not_b, neg_i, cond_t, cond_f, rng1, rng2, list_of, part_i, seq_nx, seq_ret, seq_brk, seq_cont, if_t, if_f, own_some, own_val, own_non, sv_some, sv_none, bind_name, start0, Option.bind_some, Option.bind_none, Option.map_some, Option.map_none, List.map_cons, List.map_nil, List.length_cons, List.length_nil, List.replicate, List.cons_append, List.nil_append, List.getElem?_cons_zero, List.getElem?_cons_succ, List.set_cons_zero, List.set_cons_succ, Nat.reduceAdd, Nat.reduceSub, if_true, if_false, Bool.false_eq_true, reduceIte, decide_true, decide_false, Bool.not_true, Bool.not_false, tup_d, lst_d, sz0, sz1, sz2, sz3, sz4, sz5, bnd2, bnd2l, bnd3, set2, set3, abs_i, max2_i, lt_i, gt_i, le_i, ge_i, for_nil, sat_some, lo_nx, lo_cont, lo_brk, lo_ret, d_law_are_steps, isi_t, decide_eq_true (show (4 : Int) < (ds.length : Nat) by omega)]
  · have h := not_tup (d := d) fun z e => ht ⟨z, e⟩
    have e : stepsBy F d = false := by cases d <;> first | rfl | cases h
    rw [e]
    refine ife_t ?_ (ret_sat rfl rfl)
    simp only [cmpl, exs, ex, ev, evs, evPart, evIt, sealE, sealIt, rd_val, rd_own, rd_succ, Lr.add_int, Lr.sub_int, bin_add, bin_sub, bin_mul, bin_fdiv, bin_mod, cmp_eq, cmp_ne, cmp_lt, cmp_le, cmp_gt, cmp_ge, cmp_in, cmp_notin, cmp_isN, cmp_isnotN, Lr.eq_int, Lr.ne_int, Lr.len_lst, Lr.len_tup, tuple_lst, tuple_tup, list_lst, list_tup, int_bl, bi_len, bi_tuple, bi_list, bi_int, bi_join, bi_any, bi_all, bi_index, bi_sorted, bi_min1, bi_max1, bi_max2, bi_abs, bi_sum, bi_split, idx_lst, idx_tup, Lr.sl_lst, Lr.sl_tup, and_t', and_f, or_f', or_t, blo, chain_f, chain_t, not_b, neg_i, cond_t, cond_f, rng1, rng2, list_of, part_i, seq_nx, seq_ret, seq_brk, seq_cont, if_t, if_f, own_some, own_val, own_non, sv_some, sv_none, bind_name, start0, Option.bind_some, Option.bind_none, Option.map_some, Option.map_none, List.map_cons, List.map_nil, List.length_cons, List.length_nil, List.replicate, List.cons_append, List.nil_append, List.getElem?_cons_zero, List.getElem?_cons_succ, List.set_cons_zero, List.set_cons_succ, Nat.reduceAdd, Nat.reduceSub, if_true, if_false, Bool.false_eq_true, reduceIte, decide_true, decide_false, Bool.not_true, Bool.not_false, tup_d, lst_d, sz0, sz1, sz2, sz3, sz4, sz5, bnd2, bnd2l, bnd3, set2, set3, abs_i, max2_i, lt_i, gt_i, le_i, ge_i, for_nil, sat_some, lo_nx, lo_cont, lo_brk, lo_ret, d_law_are_steps, h]
structure LsT (T : Tab) : Prop where
  name : T "_law_is_name" = some d_law_is_name_k01
  step : T "_law_is_step" = some d_law_is_step
  steps : T "_law_are_steps" = some d_law_are_steps
noncomputable def lF (deep : Int) (F' : PyData → Bool) : Option (PyData → Bool) := if 0 < deep then some F' else none
theorem lF_frame {deep : Int} {F' : PyData → Bool} {w : Str} {r : List PyData} (h : w ≠ "tell") : stepW hs (lF deep F') (.tuple (.str w :: r)) = (decide (0 < deep) && frameB F' w r) := by
  unfold lF
  by_cases q : 0 < deep
  · rw [if_pos q, stepW_some h, decide_eq_true q, Bool.true_and]
  · rw [if_neg q, stepW_none h, decide_eq_false q, Bool.false_and]
theorem lisstep_step (A : LsT T) (hL : L ≤ 1000) (hm : m ≤ 62) (hn : ∀ x ∈ hs, NameOk x) {j : Nat} {deep : Int} {F' : PyData → Bool} (hj : 1 ≤ j) (hA : ∀ {e}, Gd L m e → callAt T g fu j "_law_are_steps" [e, hsD hs, .int (deep - 1)] = some (.bool (stepsBy F' e))) {d : PyData} (hd : Gd L (m + 1) d) :
    callAt T g fu (j + 1) "_law_is_step" [d, hsD hs, .int deep] = some (.bool (stepW hs (lF deep F') d)) := by
  refine call_sat (df := d_law_is_step) A.step rfl ?_
  by_cases ht : ∃ z, d = .tuple z
  case neg =>
    have h := not_tup (d := d) fun z e => ht ⟨z, e⟩
    refine ife_t (by simp only [cmpl, exs, ex, ev, evs, evPart, evIt, sealE, sealIt, rd_val, rd_own, rd_succ, Lr.add_int, Lr.sub_int, bin_add, bin_sub, bin_mul, bin_fdiv, bin_mod, cmp_eq, cmp_ne, cmp_lt, cmp_le, cmp_gt, cmp_ge, cmp_in, cmp_notin, cmp_isN, cmp_isnotN, Lr.eq_int, Lr.ne_int, Lr.len_lst, Lr.len_tup, tuple_lst, tuple_tup, list_lst, list_tup, int_bl, bi_len, bi_tuple, bi_list, bi_int, bi_join, bi_any, bi_all, bi_index, bi_sorted, bi_min1, bi_max1, bi_max2, bi_abs, bi_sum, bi_split, idx_lst, idx_tup, Lr.sl_lst, Lr.sl_tup, and_t', and_f, or_f', or_t, blo, chain_f, chain_t, not_b, neg_i, cond_t, cond_f, rng1, rng2, list_of, part_i, seq_nx, seq_ret, seq_brk, seq_cont, if_t, if_f, own_some, own_val, own_non, sv_some, sv_none, bind_name, start0, Option.bind_some, Option.bind_none, Option.map_some, Option.map_none, List.map_cons, List.map_nil, List.length_cons, List.length_nil, List.replicate, List.cons_append, List.nil_append, List.getElem?_cons_zero, List.getElem?_cons_succ, List.set_cons_zero, List.set_cons_succ, Nat.reduceAdd, Nat.reduceSub, if_true, if_false, Bool.false_eq_true, reduceIte, decide_true, decide_false, Bool.not_true, Bool.not_false, tup_d, lst_d, sz0, sz1, sz2, sz3, sz4, sz5, bnd2, bnd2l, bnd3, set2, set3, abs_i, max2_i, lt_i, gt_i, le_i, ge_i, for_nil, sat_some, lo_nx, lo_cont, lo_brk, lo_ret, d_law_is_step, h]) (ret_sat rfl ?_)
    cases d <;> first | rfl | cases h
  obtain ⟨ds, rfl⟩ := ht
  have hlay : Lay (m + 1) (.tuple ds) := hd.lay
  unfold Gd at hd
  obtain ⟨hl, he⟩ := hd
  match ds, hl, he, hlay with
  | [], hl, he, hlay => exact ife_t (by simp only [cmpl, exs, ex, ev, evs, evPart, evIt, sealE, sealIt, rd_val, rd_own, rd_succ, Lr.add_int, Lr.sub_int, bin_add, bin_sub, bin_mul, bin_fdiv, bin_mod, cmp_eq, cmp_ne, cmp_lt, cmp_le, cmp_gt, cmp_ge, cmp_in, cmp_notin, cmp_isN, cmp_isnotN, Lr.eq_int, Lr.ne_int, Lr.len_lst, Lr.len_tup, tuple_lst, tuple_tup, list_lst, list_tup, int_bl, bi_len, bi_tuple, bi_list, bi_int, bi_join, bi_any, bi_all, bi_index, bi_sorted, bi_min1, bi_max1, bi_max2, bi_abs, bi_sum, bi_split, idx_lst, idx_tup, Lr.sl_lst, Lr.sl_tup, and_t', and_f, or_f', or_t, blo, chain_f, chain_t, not_b, neg_i, cond_t, cond_f, rng1, rng2, list_of, part_i, seq_nx, seq_ret, seq_brk, seq_cont, if_t, if_f, own_some, own_val, own_non, sv_some, sv_none, bind_name, start0, Option.bind_some, Option.bind_none, Option.map_some, Option.map_none, List.map_cons, List.map_nil, List.length_cons, List.length_nil, List.replicate, List.cons_append, List.nil_append, List.getElem?_cons_zero, List.getElem?_cons_succ, List.set_cons_zero, List.set_cons_succ, Nat.reduceAdd, Nat.reduceSub, if_true, if_false, Bool.false_eq_true, reduceIte, decide_true, decide_false, Bool.not_true, Bool.not_false, tup_d, lst_d, sz0, sz1, sz2, sz3, sz4, sz5, bnd2, bnd2l, bnd3, set2, set3, abs_i, max2_i, lt_i, gt_i, le_i, ge_i, for_nil, sat_some, lo_nx, lo_cont, lo_brk, lo_ret, d_law_is_step, isi_t, eqtnil hlay (show m + 1 ≤ 64 by omega)]; rfl) (ret_sat rfl rfl)
  | x :: r, hl, he, hlay =>
    by_cases hx : ∃ w, x = .str w
    case neg =>
      have h := not_str (d := x) fun z e => hx ⟨z, e⟩
      refine ife_t (by simp only [cmpl, exs, ex, ev, evs, evPart, evIt, sealE, sealIt, rd_val, rd_own, rd_succ, Lr.add_int, Lr.sub_int, bin_add, bin_sub, bin_mul, bin_fdiv, bin_mod, cmp_eq, cmp_ne, cmp_lt, cmp_le, cmp_gt, cmp_ge, cmp_in, cmp_notin, cmp_isN, cmp_isnotN, Lr.eq_int, Lr.ne_int, Lr.len_lst, Lr.len_tup, tuple_lst, tuple_tup, list_lst, list_tup, int_bl, bi_len, bi_tuple, bi_list, bi_int, bi_join, bi_any, bi_all, bi_index, bi_sorted, bi_min1, bi_max1, bi_max2, bi_abs, bi_sum, bi_split, idx_lst, idx_tup, Lr.sl_lst, Lr.sl_tup, and_t', and_f, or_f', or_t, blo, chain_f, chain_t, not_b, neg_i, cond_t, cond_f, rng1, rng2, list_of, part_i, seq_nx, seq_ret, seq_brk, seq_cont, if_t, if_f, own_some, own_val, own_non, sv_some, sv_none, bind_name, start0, Option.bind_some, Option.bind_none, Option.map_some, Option.map_none, List.map_cons, List.map_nil, List.length_cons, List.length_nil, List.replicate, List.cons_append, List.nil_append, List.getElem?_cons_zero, List.getElem?_cons_succ, List.set_cons_zero, List.set_cons_succ, Nat.reduceAdd, Nat.reduceSub, if_true, if_false, Bool.false_eq_true, reduceIte, decide_true, decide_false, Bool.not_true, Bool.not_false, tup_d, lst_d, sz0, sz1, sz2, sz3, sz4, sz5, bnd2, bnd2l, bnd3, set2, set3, abs_i, max2_i, lt_i, gt_i, le_i, ge_i, for_nil, sat_some, lo_nx, lo_cont, lo_brk, lo_ret, d_law_is_step, isi_t, eqtnil hlay (show m + 1 ≤ 64 by omega), List.isEmpty_cons, ax0, h]) (ret_sat rfl ?_)
      rw [stepW_no h]
    obtain ⟨w, rfl⟩ := hx
    have hw : PyData.strOk w = true := by have := he (.str w) (by simp); unfold Gd at this; exact this.1
    refine ife_f (by simp only [cmpl, exs, ex, ev, evs, evPart, evIt, sealE, sealIt, rd_val, rd_own, rd_succ, Lr.add_int, Lr.sub_int, bin_add, bin_sub, bin_mul, bin_fdiv, bin_mod, cmp_eq, cmp_ne, cmp_lt, cmp_le, cmp_gt, cmp_ge, cmp_in, cmp_notin, cmp_isN, cmp_isnotN, Lr.eq_int, Lr.ne_int, Lr.len_lst, Lr.len_tup, tuple_lst, tuple_tup, list_lst, list_tup, int_bl, bi_len, bi_tuple, bi_list, bi_int, bi_join, bi_any, bi_all, bi_index, bi_sorted, bi_min1, bi_max1, bi_max2, bi_abs, bi_sum, bi_split, idx_lst, idx_tup, Lr.sl_lst, Lr.sl_tup, and_t', and_f, or_f', or_t, blo, chain_f, chain_t, not_b, neg_i, cond_t, cond_f, rng1, rng2, list_of, part_i, seq_nx, seq_ret, seq_brk, seq_cont, if_t, if_f, own_some, own_val, own_non, sv_some, sv_none, bind_name, start0, Option.bind_some, Option.bind_none, Option.map_some, Option.map_none, List.map_cons, List.map_nil, List.length_cons, List.length_nil, List.replicate, List.cons_append, List.nil_append, List.getElem?_cons_zero, List.getElem?_cons_succ, List.set_cons_zero, List.set_cons_succ, Nat.reduceAdd, Nat.reduceSub, if_true, if_false, Bool.false_eq_true, reduceIte, decide_true, decide_false, Bool.not_true, Bool.not_false, tup_d, lst_d, sz0, sz1, sz2, sz3, sz4, sz5, bnd2, bnd2l, bnd3, set2, set3, abs_i, max2_i, lt_i, gt_i, le_i, ge_i, for_nil, sat_some, lo_nx, lo_cont, lo_brk, lo_ret, d_law_is_step, isi_t, eqtnil hlay (show m + 1 ≤ 64 by omega), List.isEmpty_cons, ax0, isi_s]) ?_
    have hlen : ev true ⟨callAt T g fu j, fu, g⟩ (start0 d_law_is_step [.tuple (.str w :: r), hsD hs, .int deep]) (.cmp .ne (.bi .len (.cons (.var 0) .nil)) (.dget ["tell", "choice", "round", "both"] (.cons (.lit (.int 4)) (.cons (.lit (.int 2)) (.cons (.lit (.int 2)) (.cons (.lit (.int 3)) .nil)))) (.idx (.var 0) (.lit (.int 0))) (.som (.lit (.int 0))))) = some (.bool (!decide (((r.length + 1 : Nat) : Int) = want w))) := by
      simp only [cmpl, exs, ex, ev, evs, evPart, evIt, sealE, sealIt, rd_val, rd_own, rd_succ, Lr.add_int, Lr.sub_int, bin_add, bin_sub, bin_mul, bin_fdiv, bin_mod, cmp_eq, cmp_ne, cmp_lt, cmp_le, cmp_gt, cmp_ge, cmp_in, cmp_notin, cmp_isN, cmp_isnotN, Lr.eq_int, Lr.ne_int, Lr.len_lst, Lr.len_tup, tuple_lst, tuple_tup, list_lst, list_tup, int_bl, bi_len, bi_tuple, bi_list, bi_int, bi_join, bi_any, bi_all, bi_index, bi_sorted, bi_min1, bi_max1, bi_max2, bi_abs, bi_sum, bi_split, idx_lst, idx_tup, Lr.sl_lst, Lr.sl_tup, and_t', and_f, or_f', or_t, blo, chain_f, chain_t, not_b, neg_i, cond_t, cond_f, rng1, rng2, list_of, part_i, seq_nx, seq_ret, seq_brk, seq_cont, if_t, if_f, own_some, own_val, own_non, sv_some, sv_none, bind_name, start0, Option.bind_some, Option.bind_none, Option.map_some, Option.map_none, List.map_cons, List.map_nil, List.length_cons, List.length_nil, List.replicate, List.cons_append, List.nil_append, List.getElem?_cons_zero, List.getElem?_cons_succ, List.set_cons_zero, List.set_cons_succ, Nat.reduceAdd, Nat.reduceSub, if_true, if_false, Bool.false_eq_true, reduceIte, decide_true, decide_false, Bool.not_true, Bool.not_false, tup_d, lst_d, sz0, sz1, sz2, sz3, sz4, sz5, bnd2, bnd2l, bnd3, set2, set3, abs_i, max2_i, lt_i, gt_i, le_i, ge_i, for_nil, sat_some, lo_nx, lo_cont, lo_brk, lo_ret, d_law_is_step, ax0, evO, dl_want]
    have tail : ∀ ps : List PyData, (∀ e ∈ ps, Gd L m e) → ps.length ≤ 1000 → Sat (exs ⟨callAt T g fu j, fu, g⟩ [.val (.tuple (.str w :: r)), .val (hsD hs), .val (.int deep), .none, .none, .none, .val (.tuple ps), .none]
        (.cons (.set 7 (.lc (.var 5) (.name 5) (.seq (.var 6)) (.not (.call "_law_are_steps" (.cons (.var 5) (.cons (.var 1) (.cons (.bin .sub (.var 2) (.lit (.int 1))) .nil))))))) (.cons (.ret (.and (.cmp .gt (.var 2) (.lit (.int 0))) (.cmp .eq (.var 7) (.lst (.nil))))) .nil))) fun o => o = .ret (.bool (decide (0 < deep) && ps.all (stepsBy F'))) := fun ps hps hpl => by
      refine stp_sat (ρ' := [.val (.tuple (.str w :: r)), .val (hsD hs), .val (.int deep), .none, .none, .none, .val (.tuple ps), .val (.list (ps.filter fun e => !stepsBy F' e))]) ?_ (ret_sat ?_ rfl)
      · simp only [cmpl, exs, ex, ev, evs, evPart, evIt, sealE, sealIt, rd_val, rd_own, rd_succ, Lr.add_int, Lr.sub_int, bin_add, bin_sub, bin_mul, bin_fdiv, bin_mod, cmp_eq, cmp_ne, cmp_lt, cmp_le, cmp_gt, cmp_ge, cmp_in, cmp_notin, cmp_isN, cmp_isnotN, Lr.eq_int, Lr.ne_int, Lr.len_lst, Lr.len_tup, tuple_lst, tuple_tup, list_lst, list_tup, int_bl, bi_len, bi_tuple, bi_list, bi_int, bi_join, bi_any, bi_all, bi_index, bi_sorted, bi_min1, bi_max1, bi_max2, bi_abs, bi_sum, bi_split, idx_lst, idx_tup, Lr.sl_lst, Lr.sl_tup, and_t', and_f, or_f', or_t, blo, chain_f, chain_t, not_b, neg_i, cond_t, cond_f, rng1, rng2, list_of, part_i, seq_nx, seq_ret, seq_brk, seq_cont, if_t, if_f, own_some, own_val, own_non, sv_some, sv_none, bind_name, start0, Option.bind_some, Option.bind_none, Option.map_some, Option.map_none, List.map_cons, List.map_nil, List.length_cons, List.length_nil, List.replicate, List.cons_append, List.nil_append, List.getElem?_cons_zero, List.getElem?_cons_succ, List.set_cons_zero, List.set_cons_succ, Nat.reduceAdd, Nat.reduceSub, if_true, if_false, Bool.false_eq_true, reduceIte, decide_true, decide_false, Bool.not_true, Bool.not_false, tup_d, lst_d, sz0, sz1, sz2, sz3, sz4, sz5, bnd2, bnd2l, bnd3, set2, set3, abs_i, max2_i, lt_i, gt_i, le_i, ge_i, for_nil, sat_some, lo_nx, lo_cont, lo_brk, lo_ret, seqI_tup, sz_ok (show ps.length ≤ 16777216 by omega)]
        rw [filt_self (p := fun e => !stepsBy F' e) fun c hc => by
          simp only [cmpl, exs, ex, ev, evs, evPart, evIt, sealE, sealIt, rd_val, rd_own, rd_succ, Lr.add_int, Lr.sub_int, bin_add, bin_sub, bin_mul, bin_fdiv, bin_mod, cmp_eq, cmp_ne, cmp_lt, cmp_le, cmp_gt, cmp_ge, cmp_in, cmp_notin, cmp_isN, cmp_isnotN, Lr.eq_int, Lr.ne_int, Lr.len_lst, Lr.len_tup, tuple_lst, tuple_tup, list_lst, list_tup, int_bl, bi_len, bi_tuple, bi_list, bi_int, bi_join, bi_any, bi_all, bi_index, bi_sorted, bi_min1, bi_max1, bi_max2, bi_abs, bi_sum, bi_split, idx_lst, idx_tup, Lr.sl_lst, Lr.sl_tup, and_t', and_f, or_f', or_t, blo, chain_f, chain_t, not_b, neg_i, cond_t, cond_f, rng1, rng2, list_of, part_i, seq_nx, seq_ret, seq_brk, seq_cont, if_t, if_f, own_some, own_val, own_non, sv_some, sv_none, bind_name, start0, Option.bind_some, Option.bind_none, Option.map_some, Option.map_none, List.map_cons, List.map_nil, List.length_cons, List.length_nil, List.replicate, List.cons_append, List.nil_append, List.getElem?_cons_zero, List.getElem?_cons_succ, List.set_cons_zero, List.set_cons_succ, Nat.reduceAdd, Nat.reduceSub, if_true, if_false, Bool.false_eq_true, reduceIte, decide_true, decide_false, Bool.not_true, Bool.not_false, tup_d, lst_d, sz0, sz1, sz2, sz3, sz4, sz5, bnd2, bnd2l, bnd3, set2, set3, abs_i, max2_i, lt_i, gt_i, le_i, ge_i, for_nil, sat_some, lo_nx, lo_cont, lo_brk, lo_ret, hA (hps c hc)]
          cases stepsBy F' c <;> rfl]
        simp only [cmpl, exs, ex, ev, evs, evPart, evIt, sealE, sealIt, rd_val, rd_own, rd_succ, Lr.add_int, Lr.sub_int, bin_add, bin_sub, bin_mul, bin_fdiv, bin_mod, cmp_eq, cmp_ne, cmp_lt, cmp_le, cmp_gt, cmp_ge, cmp_in, cmp_notin, cmp_isN, cmp_isnotN, Lr.eq_int, Lr.ne_int, Lr.len_lst, Lr.len_tup, tuple_lst, tuple_tup, list_lst, list_tup, int_bl, bi_len, bi_tuple, bi_list, bi_int, bi_join, bi_any, bi_all, bi_index, bi_sorted, bi_min1, bi_max1, bi_max2, bi_abs, bi_sum, bi_split, idx_lst, idx_tup, Lr.sl_lst, Lr.sl_tup, and_t', and_f, or_f', or_t, blo, chain_f, chain_t, not_b, neg_i, cond_t, cond_f, rng1, rng2, list_of, part_i, seq_nx, seq_ret, seq_brk, seq_cont, if_t, if_f, own_some, own_val, own_non, sv_some, sv_none, bind_name, start0, Option.bind_some, Option.bind_none, Option.map_some, Option.map_none, List.map_cons, List.map_nil, List.length_cons, List.length_nil, List.replicate, List.cons_append, List.nil_append, List.getElem?_cons_zero, List.getElem?_cons_succ, List.set_cons_zero, List.set_cons_succ, Nat.reduceAdd, Nat.reduceSub, if_true, if_false, Bool.false_eq_true, reduceIte, decide_true, decide_false, Bool.not_true, Bool.not_false, tup_d, lst_d, sz0, sz1, sz2, sz3, sz4, sz5, bnd2, bnd2l, bnd3, set2, set3, abs_i, max2_i, lt_i, gt_i, le_i, ge_i, for_nil, sat_some, lo_nx, lo_cont, lo_brk, lo_ret]
      · simp only [cmpl, exs, ex, ev, evs, evPart, evIt, sealE, sealIt, rd_val, rd_own, rd_succ, Lr.add_int, Lr.sub_int, bin_add, bin_sub, bin_mul, bin_fdiv, bin_mod, cmp_eq, cmp_ne, cmp_lt, cmp_le, cmp_gt, cmp_ge, cmp_in, cmp_notin, cmp_isN, cmp_isnotN, Lr.eq_int, Lr.ne_int, Lr.len_lst, Lr.len_tup, tuple_lst, tuple_tup, list_lst, list_tup, int_bl, bi_len, bi_tuple, bi_list, bi_int, bi_join, bi_any, bi_all, bi_index, bi_sorted, bi_min1, bi_max1, bi_max2, bi_abs, bi_sum, bi_split, idx_lst, idx_tup, Lr.sl_lst, Lr.sl_tup, and_t', and_f, or_f', or_t, blo, chain_f, chain_t, not_b, neg_i, cond_t, cond_f, rng1, rng2, list_of, part_i, seq_nx, seq_ret, seq_brk, seq_cont, if_t, if_f, own_some, own_val, own_non, sv_some, sv_none, bind_name, start0, Option.bind_some, Option.bind_none, Option.map_some, Option.map_none, List.map_cons, List.map_nil, List.length_cons, List.length_nil, List.replicate, List.cons_append, List.nil_append, List.getElem?_cons_zero, List.getElem?_cons_succ, List.set_cons_zero, List.set_cons_succ, Nat.reduceAdd, Nat.reduceSub, if_true, if_false, Bool.false_eq_true, reduceIte, decide_true, decide_false, Bool.not_true, Bool.not_false, tup_d, lst_d, sz0, sz1, sz2, sz3, sz4, sz5, bnd2, bnd2l, bnd3, set2, set3, abs_i, max2_i, lt_i, gt_i, le_i, ge_i, for_nil, sat_some, lo_nx, lo_cont, lo_brk, lo_ret, eqnil (lay_filt hps) (show m + 1 ≤ 64 by omega), filt_all]
        cases decide (0 < deep) <;> rfl
    by_cases w1 : w = "tell"
    · subst w1
      have e4 : want "tell" = 4 := by decide +kernel
      rw [e4] at hlen
      rw [stepW_tell]
      by_cases h3 : r.length = 3
      · refine ife_f (by rw [hlen, decide_eq_true (by omega)]; rfl) (ife_t (by simp only [cmpl, exs, ex, ev, evs, evPart, evIt, sealE, sealIt, rd_val, rd_own, rd_succ, Lr.add_int, Lr.sub_int, bin_add, bin_sub, bin_mul, bin_fdiv, bin_mod, cmp_eq, cmp_ne, cmp_lt, cmp_le, cmp_gt, cmp_ge, cmp_in, cmp_notin, cmp_isN, cmp_isnotN, Lr.eq_int, Lr.ne_int, Lr.len_lst, Lr.len_tup, tuple_lst, tuple_tup, list_lst, list_tup, int_bl, bi_len, bi_tuple, bi_list, bi_int, bi_join, bi_any, bi_all, bi_index, bi_sorted, bi_min1, bi_max1, bi_max2, bi_abs, bi_sum, bi_split, idx_lst, idx_tup, Lr.sl_lst, Lr.sl_tup, and_t', and_f, or_f', or_t, blo, chain_f, chain_t, not_b, neg_i, cond_t, cond_f, rng1, rng2, list_of, part_i, seq_nx, seq_ret, seq_brk, seq_cont, if_t, if_f, own_some, own_val, own_non, sv_some, sv_none, bind_name, start0, Option.bind_some, Option.bind_none, Option.map_some, Option.map_none, List.map_cons, List.map_nil, List.length_cons, List.length_nil, List.replicate, List.cons_append, List.nil_append, List.getElem?_cons_zero, List.getElem?_cons_succ, List.set_cons_zero, List.set_cons_succ, Nat.reduceAdd, Nat.reduceSub, if_true, if_false, Bool.false_eq_true, reduceIte, decide_true, decide_false, Bool.not_true, Bool.not_false, tup_d, lst_d, sz0, sz1, sz2, sz3, sz4, sz5, bnd2, bnd2l, bnd3, set2, set3, abs_i, max2_i, lt_i, gt_i, le_i, ge_i, for_nil, sat_some, lo_nx, lo_cont, lo_brk, lo_ret, d_law_is_step, ax0, eq_str hw kwok.1]) ?_)
        match r, h3, he, hl with
        | [a, b, c], _, he, hl =>
          refine stp_sat (ρ' := [.val (.tuple [.str "tell", a, b, c]), .val (hsD hs), .val (.int deep), .val (.list ([a, b].filter (handB hs))), .none, .none, .none, .none]) ?_ (ret_sat ?_ rfl)
          · simp only [cmpl, exs, ex, ev, evs, evPart, evIt, sealE, sealIt, rd_val, rd_own, rd_succ, Lr.add_int, Lr.sub_int, bin_add, bin_sub, bin_mul, bin_fdiv, bin_mod, cmp_eq, cmp_ne, cmp_lt, cmp_le, cmp_gt, cmp_ge, cmp_in, cmp_notin, cmp_isN, cmp_isnotN, Lr.eq_int, Lr.ne_int, Lr.len_lst, Lr.len_tup, tuple_lst, tuple_tup, list_lst, list_tup, int_bl, bi_len, bi_tuple, bi_list, bi_int, bi_join, bi_any, bi_all, bi_index, bi_sorted, bi_min1, bi_max1, bi_max2, bi_abs, bi_sum, bi_split, idx_lst, idx_tup, Lr.sl_lst, Lr.sl_tup, and_t', and_f, or_f', or_t, blo, chain_f, chain_t, not_b, neg_i, cond_t, cond_f, rng1, rng2, list_of, part_i, seq_nx, seq_ret, seq_brk, seq_cont, if_t, if_f, own_some, own_val, own_non, sv_some, sv_none, bind_name, start0, Option.bind_some, Option.bind_none, Option.map_some, Option.map_none, List.map_cons, List.map_nil, List.length_cons, List.length_nil, List.replicate, List.cons_append, List.nil_append, List.getElem?_cons_zero, List.getElem?_cons_succ, List.set_cons_zero, List.set_cons_succ, Nat.reduceAdd, Nat.reduceSub, if_true, if_false, Bool.false_eq_true, reduceIte, decide_true, decide_false, Bool.not_true, Bool.not_false, tup_d, lst_d, sz0, sz1, sz2, sz3, sz4, sz5, bnd2, bnd2l, bnd3, set2, set3, abs_i, max2_i, lt_i, gt_i, le_i, ge_i, for_nil, sat_some, lo_nx, lo_cont, lo_brk, lo_ret, d_law_is_step, cut13, seqI_tup]
            rw [filt_self (p := handB hs) fun c hc => by
              have hg : Gd L m c := he c (by simp at hc ⊢; rcases hc with h | h <;> simp [h])
              by_cases hs' : ∃ z, c = .str z
              · obtain ⟨z, rfl⟩ := hs'
                unfold Gd at hg
                simp only [cmpl, exs, ex, ev, evs, evPart, evIt, sealE, sealIt, rd_val, rd_own, rd_succ, Lr.add_int, Lr.sub_int, bin_add, bin_sub, bin_mul, bin_fdiv, bin_mod, cmp_eq, cmp_ne, cmp_lt, cmp_le, cmp_gt, cmp_ge, cmp_in, cmp_notin, cmp_isN, cmp_isnotN, Lr.eq_int, Lr.ne_int, Lr.len_lst, Lr.len_tup, tuple_lst, tuple_tup, list_lst, list_tup, int_bl, bi_len, bi_tuple, bi_list, bi_int, bi_join, bi_any, bi_all, bi_index, bi_sorted, bi_min1, bi_max1, bi_max2, bi_abs, bi_sum, bi_split, idx_lst, idx_tup, Lr.sl_lst, Lr.sl_tup, and_t', and_f, or_f', or_t, blo, chain_f, chain_t, not_b, neg_i, cond_t, cond_f, rng1, rng2, list_of, part_i, seq_nx, seq_ret, seq_brk, seq_cont, if_t, if_f, own_some, own_val, own_non, sv_some, sv_none, bind_name, start0, Option.bind_some, Option.bind_none, Option.map_some, Option.map_none, List.map_cons, List.map_nil, List.length_cons, List.length_nil, List.replicate, List.cons_append, List.nil_append, List.getElem?_cons_zero, List.getElem?_cons_succ, List.set_cons_zero, List.set_cons_succ, Nat.reduceAdd, Nat.reduceSub, if_true, if_false, Bool.false_eq_true, reduceIte, decide_true, decide_false, Bool.not_true, Bool.not_false, tup_d, lst_d, sz0, sz1, sz2, sz3, sz4, sz5, bnd2, bnd2l, bnd3, set2, set3, abs_i, max2_i, lt_i, gt_i, le_i, ge_i, for_nil, sat_some, lo_nx, lo_cont, lo_brk, lo_ret, isi_s, isin_strs hg.1 hn, handB]
                by_cases q : z ∈ hs <;> simp [q, condD]
              · have h := not_str (d := c) fun z e => hs' ⟨z, e⟩
                have e : handB hs c = false := by cases c <;> first | rfl | cases h
                simp only [cmpl, exs, ex, ev, evs, evPart, evIt, sealE, sealIt, rd_val, rd_own, rd_succ, Lr.add_int, Lr.sub_int, bin_add, bin_sub, bin_mul, bin_fdiv, bin_mod, cmp_eq, cmp_ne, cmp_lt, cmp_le, cmp_gt, cmp_ge, cmp_in, cmp_notin, cmp_isN, cmp_isnotN, Lr.eq_int, Lr.ne_int, Lr.len_lst, Lr.len_tup, tuple_lst, tuple_tup, list_lst, list_tup, int_bl, bi_len, bi_tuple, bi_list, bi_int, bi_join, bi_any, bi_all, bi_index, bi_sorted, bi_min1, bi_max1, bi_max2, bi_abs, bi_sum, bi_split, idx_lst, idx_tup, Lr.sl_lst, Lr.sl_tup, and_t', and_f, or_f', or_t, blo, chain_f, chain_t, not_b, neg_i, cond_t, cond_f, rng1, rng2, list_of, part_i, seq_nx, seq_ret, seq_brk, seq_cont, if_t, if_f, own_some, own_val, own_non, sv_some, sv_none, bind_name, start0, Option.bind_some, Option.bind_none, Option.map_some, Option.map_none, List.map_cons, List.map_nil, List.length_cons, List.length_nil, List.replicate, List.cons_append, List.nil_append, List.getElem?_cons_zero, List.getElem?_cons_succ, List.set_cons_zero, List.set_cons_succ, Nat.reduceAdd, Nat.reduceSub, if_true, if_false, Bool.false_eq_true, reduceIte, decide_true, decide_false, Bool.not_true, Bool.not_false, tup_d, lst_d, sz0, sz1, sz2, sz3, sz4, sz5, bnd2, bnd2l, bnd3, set2, set3, abs_i, max2_i, lt_i, gt_i, le_i, ge_i, for_nil, sat_some, lo_nx, lo_cont, lo_brk, lo_ret, h, e]]
            simp only [cmpl, exs, ex, ev, evs, evPart, evIt, sealE, sealIt, rd_val, rd_own, rd_succ, Lr.add_int, Lr.sub_int, bin_add, bin_sub, bin_mul, bin_fdiv, bin_mod, cmp_eq, cmp_ne, cmp_lt, cmp_le, cmp_gt, cmp_ge, cmp_in, cmp_notin, cmp_isN, cmp_isnotN, Lr.eq_int, Lr.ne_int, Lr.len_lst, Lr.len_tup, tuple_lst, tuple_tup, list_lst, list_tup, int_bl, bi_len, bi_tuple, bi_list, bi_int, bi_join, bi_any, bi_all, bi_index, bi_sorted, bi_min1, bi_max1, bi_max2, bi_abs, bi_sum, bi_split, idx_lst, idx_tup, Lr.sl_lst, Lr.sl_tup, and_t', and_f, or_f', or_t, blo, chain_f, chain_t, not_b, neg_i, cond_t, cond_f, rng1, rng2, list_of, part_i, seq_nx, seq_ret, seq_brk, seq_cont, if_t, if_f, own_some, own_val, own_non, sv_some, sv_none, bind_name, start0, Option.bind_some, Option.bind_none, Option.map_some, Option.map_none, List.map_cons, List.map_nil, List.length_cons, List.length_nil, List.replicate, List.cons_append, List.nil_append, List.getElem?_cons_zero, List.getElem?_cons_succ, List.set_cons_zero, List.set_cons_succ, Nat.reduceAdd, Nat.reduceSub, if_true, if_false, Bool.false_eq_true, reduceIte, decide_true, decide_false, Bool.not_true, Bool.not_false, tup_d, lst_d, sz0, sz1, sz2, sz3, sz4, sz5, bnd2, bnd2l, bnd3, set2, set3, abs_i, max2_i, lt_i, gt_i, le_i, ge_i, for_nil, sat_some, lo_nx, lo_cont, lo_brk, lo_ret]
          · simp only [cmpl, exs, ex, ev, evs, evPart, evIt, sealE, sealIt, rd_val, rd_own, rd_succ, Lr.add_int, Lr.sub_int, bin_add, bin_sub, bin_mul, bin_fdiv, bin_mod, cmp_eq, cmp_ne, cmp_lt, cmp_le, cmp_gt, cmp_ge, cmp_in, cmp_notin, cmp_isN, cmp_isnotN, Lr.eq_int, Lr.ne_int, Lr.len_lst, Lr.len_tup, tuple_lst, tuple_tup, list_lst, list_tup, int_bl, bi_len, bi_tuple, bi_list, bi_int, bi_join, bi_any, bi_all, bi_index, bi_sorted, bi_min1, bi_max1, bi_max2, bi_abs, bi_sum, bi_split, idx_lst, idx_tup, Lr.sl_lst, Lr.sl_tup, and_t', and_f, or_f', or_t, blo, chain_f, chain_t, not_b, neg_i, cond_t, cond_f, rng1, rng2, list_of, part_i, seq_nx, seq_ret, seq_brk, seq_cont, if_t, if_f, own_some, own_val, own_non, sv_some, sv_none, bind_name, start0, Option.bind_some, Option.bind_none, Option.map_some, Option.map_none, List.map_cons, List.map_nil, List.length_cons, List.length_nil, List.replicate, List.cons_append, List.nil_append, List.getElem?_cons_zero, List.getElem?_cons_succ, List.set_cons_zero, List.set_cons_succ, Nat.reduceAdd, Nat.reduceSub, if_true, if_false, Bool.false_eq_true, reduceIte, decide_true, decide_false, Bool.not_true, Bool.not_false, tup_d, lst_d, sz0, sz1, sz2, sz3, sz4, sz5, bnd2, bnd2l, bnd3, set2, set3, abs_i, max2_i, lt_i, gt_i, le_i, ge_i, for_nil, sat_some, lo_nx, lo_cont, lo_brk, lo_ret, d_law_is_step, ax3, lisname_ok A.name (he c (by simp)) hj]
            show _ = some (PyData.bool (handB hs a && (handB hs b && nameB c)))
            rw [List.filter_cons, List.filter_cons]
            cases handB hs a <;> cases handB hs b <;> cases nameB c <;> rfl
      · rw [tellB_no h3]
        exact ife_t (by rw [hlen, decide_eq_false (by omega)]; rfl) (ret_sat rfl rfl)
    rw [lF_frame w1]
    have w1' : ev true ⟨callAt T g fu j, fu, g⟩ (start0 d_law_is_step [.tuple (.str w :: r), hsD hs, .int deep]) (.cmp .eq (.idx (.var 0) (.lit (.int 0))) (.lit (.str "tell"))) = some (.bool false) := by
      simp only [cmpl, exs, ex, ev, evs, evPart, evIt, sealE, sealIt, rd_val, rd_own, rd_succ, Lr.add_int, Lr.sub_int, bin_add, bin_sub, bin_mul, bin_fdiv, bin_mod, cmp_eq, cmp_ne, cmp_lt, cmp_le, cmp_gt, cmp_ge, cmp_in, cmp_notin, cmp_isN, cmp_isnotN, Lr.eq_int, Lr.ne_int, Lr.len_lst, Lr.len_tup, tuple_lst, tuple_tup, list_lst, list_tup, int_bl, bi_len, bi_tuple, bi_list, bi_int, bi_join, bi_any, bi_all, bi_index, bi_sorted, bi_min1, bi_max1, bi_max2, bi_abs, bi_sum, bi_split, idx_lst, idx_tup, Lr.sl_lst, Lr.sl_tup, and_t', and_f, or_f', or_t, blo, chain_f, chain_t, not_b, neg_i, cond_t, cond_f, rng1, rng2, list_of, part_i, seq_nx, seq_ret, seq_brk, seq_cont, if_t, if_f, own_some, own_val, own_non, sv_some, sv_none, bind_name, start0, Option.bind_some, Option.bind_none, Option.map_some, Option.map_none, List.map_cons, List.map_nil, List.length_cons, List.length_nil, List.replicate, List.cons_append, List.nil_append, List.getElem?_cons_zero, List.getElem?_cons_succ, List.set_cons_zero, List.set_cons_succ, Nat.reduceAdd, Nat.reduceSub, if_true, if_false, Bool.false_eq_true, reduceIte, decide_true, decide_false, Bool.not_true, Bool.not_false, tup_d, lst_d, sz0, sz1, sz2, sz3, sz4, sz5, bnd2, bnd2l, bnd3, set2, set3, abs_i, max2_i, lt_i, gt_i, le_i, ge_i, for_nil, sat_some, lo_nx, lo_cont, lo_brk, lo_ret, d_law_is_step, ax0, eq_str hw kwok.1, decide_eq_false w1]
    by_cases w2 : w = "choice"
    · have hfr : frameB F' w r = oneBy (partsBy F') r := by unfold frameB; rw [if_pos w2]
      rw [hfr]
      have e4 : want w = 2 := by subst w2; decide +kernel
      rw [e4] at hlen
      by_cases h3 : r.length = 1
      · refine ife_f (by rw [hlen, decide_eq_true (by omega)]; rfl) (ife_f w1' ?_)
        match r, h3, he, hl, tail with
        | [p], _, he, hl, tail =>
          have hp := he p (by simp)
          refine stp_sat (by simp only [cmpl, exs, ex, ev, evs, evPart, evIt, sealE, sealIt, rd_val, rd_own, rd_succ, Lr.add_int, Lr.sub_int, bin_add, bin_sub, bin_mul, bin_fdiv, bin_mod, cmp_eq, cmp_ne, cmp_lt, cmp_le, cmp_gt, cmp_ge, cmp_in, cmp_notin, cmp_isN, cmp_isnotN, Lr.eq_int, Lr.ne_int, Lr.len_lst, Lr.len_tup, tuple_lst, tuple_tup, list_lst, list_tup, int_bl, bi_len, bi_tuple, bi_list, bi_int, bi_join, bi_any, bi_all, bi_index, bi_sorted, bi_min1, bi_max1, bi_max2, bi_abs, bi_sum, bi_split, idx_lst, idx_tup, Lr.sl_lst, Lr.sl_tup, and_t', and_f, or_f', or_t, blo, chain_f, chain_t, not_b, neg_i, cond_t, cond_f, rng1, rng2, list_of, part_i, seq_nx, seq_ret, seq_brk, seq_cont, if_t, if_f, own_some, own_val, own_non, sv_some, sv_none, bind_name, start0, Option.bind_some, Option.bind_none, Option.map_some, Option.map_none, List.map_cons, List.map_nil, List.length_cons, List.length_nil, List.replicate, List.cons_append, List.nil_append, List.getElem?_cons_zero, List.getElem?_cons_succ, List.set_cons_zero, List.set_cons_succ, Nat.reduceAdd, Nat.reduceSub, if_true, if_false, Bool.false_eq_true, reduceIte, decide_true, decide_false, Bool.not_true, Bool.not_false, tup_d, lst_d, sz0, sz1, sz2, sz3, sz4, sz5, bnd2, bnd2l, bnd3, set2, set3, abs_i, max2_i, lt_i, gt_i, le_i, ge_i, for_nil, sat_some, lo_nx, lo_cont, lo_brk, lo_ret, d_law_is_step, cut1]; rfl) (ife_t (by simp only [cmpl, exs, ex, ev, evs, evPart, evIt, sealE, sealIt, rd_val, rd_own, rd_succ, Lr.add_int, Lr.sub_int, bin_add, bin_sub, bin_mul, bin_fdiv, bin_mod, cmp_eq, cmp_ne, cmp_lt, cmp_le, cmp_gt, cmp_ge, cmp_in, cmp_notin, cmp_isN, cmp_isnotN, Lr.eq_int, Lr.ne_int, Lr.len_lst, Lr.len_tup, tuple_lst, tuple_tup, list_lst, list_tup, int_bl, bi_len, bi_tuple, bi_list, bi_int, bi_join, bi_any, bi_all, bi_index, bi_sorted, bi_min1, bi_max1, bi_max2, bi_abs, bi_sum, bi_split, idx_lst, idx_tup, Lr.sl_lst, Lr.sl_tup, and_t', and_f, or_f', or_t, blo, chain_f, chain_t, not_b, neg_i, cond_t, cond_f, rng1, rng2, list_of, part_i, seq_nx, seq_ret, seq_brk, seq_cont, if_t, if_f, own_some, own_val, own_non, sv_some, sv_none, bind_name, start0, Option.bind_some, Option.bind_none, Option.map_some, Option.map_none, List.map_cons, List.map_nil, List.length_cons, List.length_nil, List.replicate, List.cons_append, List.nil_append, List.getElem?_cons_zero, List.getElem?_cons_succ, List.set_cons_zero, List.set_cons_succ, Nat.reduceAdd, Nat.reduceSub, if_true, if_false, Bool.false_eq_true, reduceIte, decide_true, decide_false, Bool.not_true, Bool.not_false, tup_d, lst_d, sz0, sz1, sz2, sz3, sz4, sz5, bnd2, bnd2l, bnd3, set2, set3, abs_i, max2_i, lt_i, gt_i, le_i, ge_i, for_nil, sat_some, lo_nx, lo_cont, lo_brk, lo_ret, d_law_is_step, ax0, eq_str hw kwok.2.1, decide_eq_true w2]) ?_)
          refine stp_sat (by simp only [cmpl, exs, ex, ev, evs, evPart, evIt, sealE, sealIt, rd_val, rd_own, rd_succ, Lr.add_int, Lr.sub_int, bin_add, bin_sub, bin_mul, bin_fdiv, bin_mod, cmp_eq, cmp_ne, cmp_lt, cmp_le, cmp_gt, cmp_ge, cmp_in, cmp_notin, cmp_isN, cmp_isnotN, Lr.eq_int, Lr.ne_int, Lr.len_lst, Lr.len_tup, tuple_lst, tuple_tup, list_lst, list_tup, int_bl, bi_len, bi_tuple, bi_list, bi_int, bi_join, bi_any, bi_all, bi_index, bi_sorted, bi_min1, bi_max1, bi_max2, bi_abs, bi_sum, bi_split, idx_lst, idx_tup, Lr.sl_lst, Lr.sl_tup, and_t', and_f, or_f', or_t, blo, chain_f, chain_t, not_b, neg_i, cond_t, cond_f, rng1, rng2, list_of, part_i, seq_nx, seq_ret, seq_brk, seq_cont, if_t, if_f, own_some, own_val, own_non, sv_some, sv_none, bind_name, start0, Option.bind_some, Option.bind_none, Option.map_some, Option.map_none, List.map_cons, List.map_nil, List.length_cons, List.length_nil, List.replicate, List.cons_append, List.nil_append, List.getElem?_cons_zero, List.getElem?_cons_succ, List.set_cons_zero, List.set_cons_succ, Nat.reduceAdd, Nat.reduceSub, if_true, if_false, Bool.false_eq_true, reduceIte, decide_true, decide_false, Bool.not_true, Bool.not_false, tup_d, lst_d, sz0, sz1, sz2, sz3, sz4, sz5, bnd2, bnd2l, bnd3, set2, set3, abs_i, max2_i, lt_i, gt_i, le_i, ge_i, for_nil, sat_some, lo_nx, lo_cont, lo_brk, lo_ret, d_law_is_step, ax1]; rfl) ?_
          by_cases htp : ∃ z, p = .tuple z
          case neg =>
            have h := not_tup (d := p) fun z e => htp ⟨z, e⟩
            have : oneBy (partsBy F') [p] = false := by show partsBy F' p = false; cases p <;> first | rfl | cases h
            rw [this, Bool.and_false]
            exact ife_t (by simp only [cmpl, exs, ex, ev, evs, evPart, evIt, sealE, sealIt, rd_val, rd_own, rd_succ, Lr.add_int, Lr.sub_int, bin_add, bin_sub, bin_mul, bin_fdiv, bin_mod, cmp_eq, cmp_ne, cmp_lt, cmp_le, cmp_gt, cmp_ge, cmp_in, cmp_notin, cmp_isN, cmp_isnotN, Lr.eq_int, Lr.ne_int, Lr.len_lst, Lr.len_tup, tuple_lst, tuple_tup, list_lst, list_tup, int_bl, bi_len, bi_tuple, bi_list, bi_int, bi_join, bi_any, bi_all, bi_index, bi_sorted, bi_min1, bi_max1, bi_max2, bi_abs, bi_sum, bi_split, idx_lst, idx_tup, Lr.sl_lst, Lr.sl_tup, and_t', and_f, or_f', or_t, blo, chain_f, chain_t, not_b, neg_i, cond_t, cond_f, rng1, rng2, list_of, part_i, seq_nx, seq_ret, seq_brk, seq_cont, if_t, if_f, own_some, own_val, own_non, sv_some, sv_none, bind_name, start0, Option.bind_some, Option.bind_none, Option.map_some, Option.map_none, List.map_cons, List.map_nil, List.length_cons, List.length_nil, List.replicate, List.cons_append, List.nil_append, List.getElem?_cons_zero, List.getElem?_cons_succ, List.set_cons_zero, List.set_cons_succ, Nat.reduceAdd, Nat.reduceSub, if_true, if_false, Bool.false_eq_true, reduceIte, decide_true, decide_false, Bool.not_true, Bool.not_false, tup_d, lst_d, sz0, sz1, sz2, sz3, sz4, sz5, bnd2, bnd2l, bnd3, set2, set3, abs_i, max2_i, lt_i, gt_i, le_i, ge_i, for_nil, sat_some, lo_nx, lo_cont, lo_brk, lo_ret, d_law_is_step, h]) (ret_sat rfl rfl)
          obtain ⟨ps, rfl⟩ := htp
          obtain ⟨n', rfl, hpl, hpe⟩ := gd_tup hp
          have hpe' : ∀ e ∈ ps, Gd L (n' + 1) e := fun e h => (hpe e h).mono (Nat.le_refl _) (by omega)
          show Sat _ fun o => o = .ret (.bool (decide (0 < deep) && (decide (1 ≤ ps.length ∧ ps.length ≤ 3) && ps.all (stepsBy F'))))
          by_cases q1 : 1 ≤ ps.length
          · by_cases q2 : ps.length ≤ 3
            · rw [decide_eq_true (show 1 ≤ ps.length ∧ ps.length ≤ 3 from ⟨q1, q2⟩), Bool.true_and]
              exact ife_f (by simp only [cmpl, exs, ex, ev, evs, evPart, evIt, sealE, sealIt, rd_val, rd_own, rd_succ, Lr.add_int, Lr.sub_int, bin_add, bin_sub, bin_mul, bin_fdiv, bin_mod, cmp_eq, cmp_ne, cmp_lt, cmp_le, cmp_gt, cmp_ge, cmp_in, cmp_notin, cmp_isN, cmp_isnotN, Lr.eq_int, Lr.ne_int, Lr.len_lst, Lr.len_tup, tuple_lst, tuple_tup, list_lst, list_tup, int_bl, bi_len, bi_tuple, bi_list, bi_int, bi_join, bi_any, bi_all, bi_index, bi_sorted, bi_min1, bi_max1, bi_max2, bi_abs, bi_sum, bi_split, idx_lst, idx_tup, Lr.sl_lst, Lr.sl_tup, and_t', and_f, or_f', or_t, blo, chain_f, chain_t, not_b, neg_i, cond_t, cond_f, rng1, rng2, list_of, part_i, seq_nx, seq_ret, seq_brk, seq_cont, if_t, if_f, own_some, own_val, own_non, sv_some, sv_none, bind_name, start0, Option.bind_some, Option.bind_none, Option.map_some, Option.map_none, List.map_cons, List.map_nil, List.length_cons, List.length_nil, List.replicate, List.cons_append, List.nil_append, List.getElem?_cons_zero, List.getElem?_cons_succ, List.set_cons_zero, List.set_cons_succ, Nat.reduceAdd, Nat.reduceSub, if_true, if_false, Bool.false_eq_true, reduceIte, decide_true, decide_false, Bool.not_true, Bool.not_false, tup_d, lst_d, sz0, sz1, sz2, sz3, sz4, sz5, bnd2, bnd2l, bnd3, set2, set3, abs_i, max2_i, lt_i, gt_i, le_i, ge_i, for_nil, sat_some, lo_nx, lo_cont, lo_brk, lo_ret, d_law_is_step, isi_t, decide_eq_true (show (1 : Int) ≤ (ps.length : Nat) by omega), decide_eq_true (show ((ps.length : Nat) : Int) ≤ 3 by omega)]) (tail ps hpe' (by omega))
            · rw [decide_eq_false fun h : 1 ≤ ps.length ∧ ps.length ≤ 3 => q2 h.2, Bool.false_and, Bool.and_false]
              exact ife_t (by simp only [cmpl, exs, ex, ev, evs, evPart, evIt, sealE, sealIt, rd_val, rd_own, rd_succ, Lr.add_int, Lr.sub_int, bin_add, bin_sub, bin_mul, bin_fdiv, bin_mod, cmp_eq, cmp_ne, cmp_lt, cmp_le, cmp_gt, cmp_ge, cmp_in, cmp_notin, cmp_isN, cmp_isnotN, Lr.eq_int, Lr.ne_int, Lr.len_lst, Lr.len_tup, tuple_lst, tuple_tup, list_lst, list_tup, int_bl, bi_len, bi_tuple, bi_list, bi_int, bi_join, bi_any, bi_all, bi_index, bi_sorted, bi_min1, bi_max1, bi_max2, bi_abs, bi_sum, bi_split, idx_lst, idx_tup, Lr.sl_lst, Lr.sl_tup, and_t', and_f, or_f', or_t, blo, chain_f, chain_t, not_b, neg_i, cond_t, cond_f, rng1, rng2, list_of, part_i, seq_nx, seq_ret, seq_brk, seq_cont, if_t, if_f, own_some, own_val, own_non, sv_some, sv_none, bind_name, start0, Option.bind_some, Option.bind_none, Option.map_some, Option.map_none, List.map_cons, List.map_nil, List.length_cons, List.length_nil, List.replicate, List.cons_append, List.nil_append, List.getElem?_cons_zero, List.getElem?_cons_succ, List.set_cons_zero, List.set_cons_succ, Nat.reduceAdd, Nat.reduceSub, if_true, if_false, Bool.false_eq_true, reduceIte, decide_true, decide_false, Bool.not_true, Bool.not_false, tup_d, lst_d, sz0, sz1, sz2, sz3, sz4, sz5, bnd2, bnd2l, bnd3, set2, set3, abs_i, max2_i, lt_i, gt_i, le_i, ge_i, for_nil, sat_some, lo_nx, lo_cont, lo_brk, lo_ret, d_law_is_step, isi_t, decide_eq_true (show (1 : Int) ≤ (ps.length : Nat) by omega), decide_eq_false (show ¬ ((ps.length : Nat) : Int) ≤ 3 by omega)]) (ret_sat rfl rfl)
          · rw [decide_eq_false fun h : 1 ≤ ps.length ∧ ps.length ≤ 3 => q1 h.1, Bool.false_and, Bool.and_false]
            exact ife_t (by simp only [cmpl, exs, ex, ev, evs, evPart, evIt, sealE, sealIt, rd_val, rd_own, rd_succ, Lr.add_int, Lr.sub_int, bin_add, bin_sub, bin_mul, bin_fdiv, bin_mod, cmp_eq, cmp_ne, cmp_lt, cmp_le, cmp_gt, cmp_ge, cmp_in, cmp_notin, cmp_isN, cmp_isnotN, Lr.eq_int, Lr.ne_int, Lr.len_lst, Lr.len_tup, tuple_lst, tuple_tup, list_lst, list_tup, int_bl, bi_len, bi_tuple, bi_list, bi_int, bi_join, bi_any, bi_all, bi_index, bi_sorted, bi_min1, bi_max1, bi_max2, bi_abs, bi_sum, bi_split, idx_lst, idx_tup, Lr.sl_lst, Lr.sl_tup, and_t', and_f, or_f', or_t, blo, chain_f, chain_t, not_b, neg_i, cond_t, cond_f, rng1, rng2, list_of, part_i, seq_nx, seq_ret, seq_brk, seq_cont, if_t, if_f, own_some, own_val, own_non, sv_some, sv_none, bind_name, start0, Option.bind_some, Option.bind_none, Option.map_some, Option.map_none, List.map_cons, List.map_nil, List.length_cons, List.length_nil, List.replicate, List.cons_append, List.nil_append, List.getElem?_cons_zero, List.getElem?_cons_succ, List.set_cons_zero, List.set_cons_succ, Nat.reduceAdd, Nat.reduceSub, if_true, if_false, Bool.false_eq_true, reduceIte, decide_true, decide_false, Bool.not_true, Bool.not_false, tup_d, lst_d, sz0, sz1, sz2, sz3, sz4, sz5, bnd2, bnd2l, bnd3, set2, set3, abs_i, max2_i, lt_i, gt_i, le_i, ge_i, for_nil, sat_some, lo_nx, lo_cont, lo_brk, lo_ret, d_law_is_step, isi_t, decide_eq_false (show ¬ (1 : Int) ≤ (ps.length : Nat) by omega)]) (ret_sat rfl rfl)
      · rw [oneBy_no h3, Bool.and_false]
        exact ife_t (by rw [hlen, decide_eq_false (by omega)]; rfl) (ret_sat rfl rfl)
    have fin : r.length ≤ 1000 → frameB F' w r = r.all (stepsBy F') → ((r.length + 1 : Nat) : Int) = want w → Sat (exs ⟨callAt T g fu j, fu, g⟩ (start0 d_law_is_step [.tuple (.str w :: r), hsD hs, .int deep]) (match d_law_is_step.body with | .cons _ r => r | .nil => .nil)) fun o => o = .ret (.bool (decide (0 < deep) && frameB F' w r)) := fun h0 h1 h2 => by
      rw [h1]
      refine ife_f (by rw [hlen, decide_eq_true h2]; rfl) (ife_f w1' ?_)
      refine stp_sat (by simp only [cmpl, exs, ex, ev, evs, evPart, evIt, sealE, sealIt, rd_val, rd_own, rd_succ, Lr.add_int, Lr.sub_int, bin_add, bin_sub, bin_mul, bin_fdiv, bin_mod, cmp_eq, cmp_ne, cmp_lt, cmp_le, cmp_gt, cmp_ge, cmp_in, cmp_notin, cmp_isN, cmp_isnotN, Lr.eq_int, Lr.ne_int, Lr.len_lst, Lr.len_tup, tuple_lst, tuple_tup, list_lst, list_tup, int_bl, bi_len, bi_tuple, bi_list, bi_int, bi_join, bi_any, bi_all, bi_index, bi_sorted, bi_min1, bi_max1, bi_max2, bi_abs, bi_sum, bi_split, idx_lst, idx_tup, Lr.sl_lst, Lr.sl_tup, and_t', and_f, or_f', or_t, blo, chain_f, chain_t, not_b, neg_i, cond_t, cond_f, rng1, rng2, list_of, part_i, seq_nx, seq_ret, seq_brk, seq_cont, if_t, if_f, own_some, own_val, own_non, sv_some, sv_none, bind_name, start0, Option.bind_some, Option.bind_none, Option.map_some, Option.map_none, List.map_cons, List.map_nil, List.length_cons, List.length_nil, List.replicate, List.cons_append, List.nil_append, List.getElem?_cons_zero, List.getElem?_cons_succ, List.set_cons_zero, List.set_cons_succ, Nat.reduceAdd, Nat.reduceSub, if_true, if_false, Bool.false_eq_true, reduceIte, decide_true, decide_false, Bool.not_true, Bool.not_false, tup_d, lst_d, sz0, sz1, sz2, sz3, sz4, sz5, bnd2, bnd2l, bnd3, set2, set3, abs_i, max2_i, lt_i, gt_i, le_i, ge_i, for_nil, sat_some, lo_nx, lo_cont, lo_brk, lo_ret, d_law_is_step, cut1]; rfl) (ife_f (by simp only [cmpl, exs, ex, ev, evs, evPart, evIt, sealE, sealIt, rd_val, rd_own, rd_succ, Lr.add_int, Lr.sub_int, bin_add, bin_sub, bin_mul, bin_fdiv, bin_mod, cmp_eq, cmp_ne, cmp_lt, cmp_le, cmp_gt, cmp_ge, cmp_in, cmp_notin, cmp_isN, cmp_isnotN, Lr.eq_int, Lr.ne_int, Lr.len_lst, Lr.len_tup, tuple_lst, tuple_tup, list_lst, list_tup, int_bl, bi_len, bi_tuple, bi_list, bi_int, bi_join, bi_any, bi_all, bi_index, bi_sorted, bi_min1, bi_max1, bi_max2, bi_abs, bi_sum, bi_split, idx_lst, idx_tup, Lr.sl_lst, Lr.sl_tup, and_t', and_f, or_f', or_t, blo, chain_f, chain_t, not_b, neg_i, cond_t, cond_f, rng1, rng2, list_of, part_i, seq_nx, seq_ret, seq_brk, seq_cont, if_t, if_f, own_some, own_val, own_non, sv_some, sv_none, bind_name, start0, Option.bind_some, Option.bind_none, Option.map_some, Option.map_none, List.map_cons, List.map_nil, List.length_cons, List.length_nil, List.replicate, List.cons_append, List.nil_append, List.getElem?_cons_zero, List.getElem?_cons_succ, List.set_cons_zero, List.set_cons_succ, Nat.reduceAdd, Nat.reduceSub, if_true, if_false, Bool.false_eq_true, reduceIte, decide_true, decide_false, Bool.not_true, Bool.not_false, tup_d, lst_d, sz0, sz1, sz2, sz3, sz4, sz5, bnd2, bnd2l, bnd3, set2, set3, abs_i, max2_i, lt_i, gt_i, le_i, ge_i, for_nil, sat_some, lo_nx, lo_cont, lo_brk, lo_ret, d_law_is_step, ax0, eq_str hw kwok.2.1, decide_eq_false w2]) ?_)
      exact tail r (fun e h => he e (List.mem_cons_of_mem _ h)) h0
    by_cases w3 : w = "round"
    · have hfr : frameB F' w r = oneBy (stepsBy F') r := by unfold frameB; rw [if_neg w2, if_pos w3]
      have e4 : want w = 2 := by subst w3; decide +kernel
      by_cases h3 : r.length = 1
      · refine fin (by omega) ?_ (by rw [e4]; omega)
        rw [hfr]
        match r, h3 with
        | [p], _ => show stepsBy F' p = (stepsBy F' p && true); rw [Bool.and_true]
      · rw [hfr, oneBy_no h3, Bool.and_false]
        exact ife_t (by rw [hlen, e4, decide_eq_false (by omega)]; rfl) (ret_sat rfl rfl)
    by_cases w4 : w = "both"
    · have hfr : frameB F' w r = twoBy (stepsBy F') r := by unfold frameB; rw [if_neg w2, if_neg w3, if_pos w4]
      have e4 : want w = 3 := by subst w4; decide +kernel
      by_cases h3 : r.length = 2
      · refine fin (by omega) ?_ (by rw [e4]; omega)
        rw [hfr]
        match r, h3 with
        | [p, q], _ => show (stepsBy F' p && stepsBy F' q) = (stepsBy F' p && (stepsBy F' q && true)); rw [Bool.and_true]
      · rw [hfr, twoBy_no h3, Bool.and_false]
        exact ife_t (by rw [hlen, e4, decide_eq_false (by omega)]; rfl) (ret_sat rfl rfl)
    have hfr : frameB F' w r = false := by unfold frameB; rw [if_neg w2, if_neg w3, if_neg w4]
    have e4 : want w = 0 := by unfold want; rw [if_neg w1, if_neg w2, if_neg w3, if_neg w4]
    rw [hfr, Bool.and_false]
    exact ife_t (by rw [hlen, e4, decide_eq_false (by omega)]; rfl) (ret_sat rfl rfl)
theorem lF_step (deep : Int) : lF deep (stepB hs (deep - 1).toNat) = match deep.toNat with | 0 => none | n + 1 => some (stepB hs n) := by
  unfold lF
  by_cases h : 0 < deep
  · rw [if_pos h, show deep.toNat = (deep - 1).toNat + 1 by omega]
  · rw [if_neg h, show deep.toNat = 0 by omega]
theorem stepB_lF (deep : Int) (d : PyData) : stepW hs (lF deep (stepB hs (deep - 1).toNat)) d = stepB hs deep.toNat d := by
  rw [lF_step]
  cases deep.toNat <;> rfl
theorem lisstep_ok (A : LsT T) (hL : L ≤ 1000) (hn : ∀ x ∈ hs, NameOk x) : ∀ (m k : Nat), m ≤ 62 → 2 * m + 4 ≤ k → ∀ {deep : Int} {d : PyData}, Gd L (m + 1) d → callAt T g fu k "_law_is_step" [d, hsD hs, .int deep] = some (.bool (stepB hs deep.toNat d))
  | 0, k, hm, hk, deep, d, hd => by
    obtain ⟨j, rfl⟩ := lvl (show 2 ≤ k by omega)
    rw [← stepB_lF]
    refine lisstep_step A hL (m := 0) (by omega) hn (j := j + 1) (by omega) (fun {e} h => ?_) hd
    refine call_sat (df := d_law_are_steps) A.steps rfl ?_
    have hnt : isiEv .tuple e = false := not_tup fun z q => by subst q; unfold Gd at h; exact h
    have e0 : stepsBy (stepB hs (deep - 1).toNat) e = false := by cases e <;> first | rfl | cases hnt
    rw [e0]
    exact ife_t (by simp only [cmpl, exs, ex, ev, evs, evPart, evIt, sealE, sealIt, rd_val, rd_own, rd_succ, Lr.add_int, Lr.sub_int, bin_add, bin_sub, bin_mul, bin_fdiv, bin_mod, cmp_eq, cmp_ne, cmp_lt, cmp_le, cmp_gt, cmp_ge, cmp_in, cmp_notin, cmp_isN, cmp_isnotN, Lr.eq_int, Lr.ne_int, Lr.len_lst, Lr.len_tup, tuple_lst, tuple_tup, list_lst, list_tup, int_bl, bi_len, bi_tuple, bi_list, bi_int, bi_join, bi_any, bi_all, bi_index, bi_sorted, bi_min1, bi_max1, bi_max2, bi_abs, bi_sum, bi_split, idx_lst, idx_tup, Lr.sl_lst, Lr.sl_tup, and_t', and_f, or_f', or_t, blo, chain_f, chain_t, not_b, neg_i, cond_t, cond_f, rng1, rng2, list_of, part_i, seq_nx, seq_ret, seq_brk, seq_cont, if_t, if_f, own_some, own_val, own_non, sv_some, sv_none, bind_name, start0, Option.bind_some, Option.bind_none, Option.map_some, Option.map_none, List.map_cons, List.map_nil, List.length_cons, List.length_nil, List.replicate, List.cons_append, List.nil_append, List.getElem?_cons_zero, List.getElem?_cons_succ, List.set_cons_zero, List.set_cons_succ, Nat.reduceAdd, Nat.reduceSub, if_true, if_false, Bool.false_eq_true, reduceIte, decide_true, decide_false, Bool.not_true, Bool.not_false, tup_d, lst_d, sz0, sz1, sz2, sz3, sz4, sz5, bnd2, bnd2l, bnd3, set2, set3, abs_i, max2_i, lt_i, gt_i, le_i, ge_i, for_nil, sat_some, lo_nx, lo_cont, lo_brk, lo_ret, d_law_are_steps, hnt]) (ret_sat rfl rfl)
  | m + 1, k, hm, hk, deep, d, hd => by
    obtain ⟨j, rfl⟩ := lvl (show 2 ≤ k by omega)
    rw [← stepB_lF]
    refine lisstep_step A hL (m := m + 1) hm hn (j := j + 1) (by omega) (fun {e} h => ?_) hd
    exact laresteps_of A.steps hL (by omega) (fun e he => lisstep_ok A hL hn m j (by omega) (by omega) (he.mono (Nat.le_refl _) (Nat.le_succ _))) h
end
end Lr
namespace Lr
open PySem PySem.Spec PyProof.Rows L2
theorem names_of : ∀ {hs : List PyData}, hs.all nameB = true → hs = (strs0 hs).map .str ∧ ∀ x ∈ strs0 hs, NameOk x
  | [], _ => ⟨rfl, fun x hx => by cases hx⟩
  | d :: hs, h => by
    rw [List.all_cons, Bool.and_eq_true] at h
    obtain ⟨h1, h2⟩ := names_of h.2
    cases d with
    | str z =>
      refine ⟨?_, fun x hx => ?_⟩
      · show _ = PyData.str z :: (strs0 hs).map .str
        rw [← h1]
      · rcases List.mem_cons.mp hx with rfl | hx
        · exact of_decide_eq_true h.1
        · exact h2 x hx
    | _ => cases h.1
theorem talkB_len {ds : List PyData} (h : ds.length ≠ 2) : talkB (.tuple ds) = false := by
  match ds, h with
  | [], _ => rfl
  | [x], _ => cases x <;> rfl
  | [_, _], h => exact absurd rfl h
  | x :: _ :: _ :: _, _ => cases x <;> rfl
theorem talkB_not {d : PyData} (h : isiEv .tuple d = false) : talkB d = false := by cases d <;> first | rfl | cases h
theorem talkB_fst {x p : PyData} (h : isiEv .tuple x = false) : talkB (.tuple [x, p]) = false := by cases x <;> first | rfl | cases h
theorem bi_ls {ds : List PyData} : biEv .lenSet ds = lenSetEv ds := rfl
theorem ls_strs {zs : List Str} (h : zs.length ≤ 1000) : lenSetEv [.tuple (zs.map .str)] = some (.int (cntN zs zs.length : Nat)) := by
  show (strsD (zs.map .str)).bind _ = _
  rw [ints_strs]
  show (if decide (zs.length ≤ 1000) = true then _ else _) = _
  rw [if_pos (decide_eq_true h)]
section
variable {T : Tab} {g : Str → Option PyData} {fu : Nat} {L m : Nat}
structure TkT (T : Tab) : Prop extends AsT T where
  talk : T "is_talk" = some d_is_talk_k01
structure LtT (T : Tab) : Prop extends LsT T where
  talk : T "_law_is_talk" = some d_law_is_talk
theorem istalk_ok (A : TkT T) (G : Glob g) (hg : g "DEEPEST" = some (.int 3)) (hL : L ≤ 1000) {k : Nat} (hk : 10 ≤ k) {d : PyData} (hd : Gd L m d) : callAt T g fu k "is_talk" [d] = some (.bool (talkB d)) := by
  obtain ⟨j, rfl⟩ := lvl (show 2 ≤ k by omega)
  refine call_sat (df := d_is_talk_k01) A.talk rfl ?_
  by_cases ht : ∃ z, d = .tuple z
  case neg =>
    have h := not_tup (d := d) fun z e => ht ⟨z, e⟩
    rw [talkB_not h]
    exact ife_t (by simp only [cmpl, exs, ex, ev, evs, evPart, evIt, sealE, sealIt, rd_val, rd_own, rd_succ, Lr.add_int, Lr.sub_int, bin_add, bin_sub, bin_mul, bin_fdiv, bin_mod, cmp_eq, cmp_ne, cmp_lt, cmp_le, cmp_gt, cmp_ge, cmp_in, cmp_notin, cmp_isN, cmp_isnotN, Lr.eq_int, Lr.ne_int, Lr.len_lst, Lr.len_tup, tuple_lst, tuple_tup, list_lst, list_tup, int_bl, bi_len, bi_tuple, bi_list, bi_int, bi_join, bi_any, bi_all, bi_index, bi_sorted, bi_min1, bi_max1, bi_max2, bi_abs, bi_sum, bi_split, idx_lst, idx_tup, Lr.sl_lst, Lr.sl_tup, and_t', and_f, or_f', or_t, blo, chain_f, chain_t, not_b, neg_i, cond_t, cond_f, rng1, rng2, list_of, part_i, seq_nx, seq_ret, seq_brk, seq_cont, if_t, if_f, own_some, own_val, own_non, sv_some, sv_none, bind_name, start0, Option.bind_some, Option.bind_none, Option.map_some, Option.map_none, List.map_cons, List.map_nil, List.length_cons, List.length_nil, List.replicate, List.cons_append, List.nil_append, List.getElem?_cons_zero, List.getElem?_cons_succ, List.set_cons_zero, List.set_cons_succ, Nat.reduceAdd, Nat.reduceSub, if_true, if_false, Bool.false_eq_true, reduceIte, decide_true, decide_false, Bool.not_true, Bool.not_false, tup_d, lst_d, sz0, sz1, sz2, sz3, sz4, sz5, bnd2, bnd2l, bnd3, set2, set3, abs_i, max2_i, lt_i, gt_i, le_i, ge_i, for_nil, sat_some, lo_nx, lo_cont, lo_brk, lo_ret, d_is_talk_k01, h]) (ret_sat rfl rfl)
  obtain ⟨ds, rfl⟩ := ht
  by_cases hl : ds.length = 2
  case neg =>
    rw [talkB_len hl]
    exact ife_t (by simp only [cmpl, exs, ex, ev, evs, evPart, evIt, sealE, sealIt, rd_val, rd_own, rd_succ, Lr.add_int, Lr.sub_int, bin_add, bin_sub, bin_mul, bin_fdiv, bin_mod, cmp_eq, cmp_ne, cmp_lt, cmp_le, cmp_gt, cmp_ge, cmp_in, cmp_notin, cmp_isN, cmp_isnotN, Lr.eq_int, Lr.ne_int, Lr.len_lst, Lr.len_tup, tuple_lst, tuple_tup, list_lst, list_tup, int_bl, bi_len, bi_tuple, bi_list, bi_int, bi_join, bi_any, bi_all, bi_index, bi_sorted, bi_min1, bi_max1, bi_max2, bi_abs, bi_sum, bi_split, idx_lst, idx_tup, Lr.sl_lst, Lr.sl_tup, and_t', and_f, or_f', or_t, blo, chain_f, chain_t, not_b, neg_i, cond_t, cond_f, rng1, rng2, list_of, part_i, seq_nx, seq_ret, seq_brk, seq_cont, if_t, if_f, own_some, own_val, own_non, sv_some, sv_none, bind_name, start0, Option.bind_some, Option.bind_none, Option.map_some, Option.map_none, List.map_cons, List.map_nil, List.length_cons, List.length_nil, List.replicate, List.cons_append, List.nil_append, List.getElem?_cons_zero, List.getElem?_cons_succ, List.set_cons_zero, List.set_cons_succ, Nat.reduceAdd, Nat.reduceSub, if_true, if_false, Bool.false_eq_true, reduceIte, decide_true, decide_false, Bool.not_true, Bool.not_false, tup_d, lst_d, sz0, sz1, sz2, sz3, sz4, sz5, bnd2, bnd2l, bnd3, set2, set3, abs_i, max2_i, lt_i, gt_i, le_i, ge_i, for_nil, sat_some, lo_nx, lo_cont, lo_brk, lo_ret, d_is_talk_k01, isi_t, decide_eq_false (show ¬ ((ds.length : Nat) : Int) = 2 by omega)]) (ret_sat rfl rfl)
  obtain ⟨n, rfl, _, he⟩ := gd_tup hd
  match ds, hl, he with
  | [x, p], _, he =>
    have hp := (he p (by simp)).mono (Nat.le_refl _) (Nat.le_succ n)
    by_cases hx : ∃ z, x = .tuple z
    case neg =>
      have h := not_tup (d := x) fun z e => hx ⟨z, e⟩
      rw [talkB_fst h]
      exact ife_t (by simp only [cmpl, exs, ex, ev, evs, evPart, evIt, sealE, sealIt, rd_val, rd_own, rd_succ, Lr.add_int, Lr.sub_int, bin_add, bin_sub, bin_mul, bin_fdiv, bin_mod, cmp_eq, cmp_ne, cmp_lt, cmp_le, cmp_gt, cmp_ge, cmp_in, cmp_notin, cmp_isN, cmp_isnotN, Lr.eq_int, Lr.ne_int, Lr.len_lst, Lr.len_tup, tuple_lst, tuple_tup, list_lst, list_tup, int_bl, bi_len, bi_tuple, bi_list, bi_int, bi_join, bi_any, bi_all, bi_index, bi_sorted, bi_min1, bi_max1, bi_max2, bi_abs, bi_sum, bi_split, idx_lst, idx_tup, Lr.sl_lst, Lr.sl_tup, and_t', and_f, or_f', or_t, blo, chain_f, chain_t, not_b, neg_i, cond_t, cond_f, rng1, rng2, list_of, part_i, seq_nx, seq_ret, seq_brk, seq_cont, if_t, if_f, own_some, own_val, own_non, sv_some, sv_none, bind_name, start0, Option.bind_some, Option.bind_none, Option.map_some, Option.map_none, List.map_cons, List.map_nil, List.length_cons, List.length_nil, List.replicate, List.cons_append, List.nil_append, List.getElem?_cons_zero, List.getElem?_cons_succ, List.set_cons_zero, List.set_cons_succ, Nat.reduceAdd, Nat.reduceSub, if_true, if_false, Bool.false_eq_true, reduceIte, decide_true, decide_false, Bool.not_true, Bool.not_false, tup_d, lst_d, sz0, sz1, sz2, sz3, sz4, sz5, bnd2, bnd2l, bnd3, set2, set3, abs_i, max2_i, lt_i, gt_i, le_i, ge_i, for_nil, sat_some, lo_nx, lo_cont, lo_brk, lo_ret, d_is_talk_k01, isi_t, ax0, h]; rfl) (ret_sat rfl rfl)
    obtain ⟨hs, rfl⟩ := hx
    obtain ⟨n', rfl, hhl, hhe⟩ := gd_tup (he (.tuple hs) (by simp))
    refine ife_f (by simp only [cmpl, exs, ex, ev, evs, evPart, evIt, sealE, sealIt, rd_val, rd_own, rd_succ, Lr.add_int, Lr.sub_int, bin_add, bin_sub, bin_mul, bin_fdiv, bin_mod, cmp_eq, cmp_ne, cmp_lt, cmp_le, cmp_gt, cmp_ge, cmp_in, cmp_notin, cmp_isN, cmp_isnotN, Lr.eq_int, Lr.ne_int, Lr.len_lst, Lr.len_tup, tuple_lst, tuple_tup, list_lst, list_tup, int_bl, bi_len, bi_tuple, bi_list, bi_int, bi_join, bi_any, bi_all, bi_index, bi_sorted, bi_min1, bi_max1, bi_max2, bi_abs, bi_sum, bi_split, idx_lst, idx_tup, Lr.sl_lst, Lr.sl_tup, and_t', and_f, or_f', or_t, blo, chain_f, chain_t, not_b, neg_i, cond_t, cond_f, rng1, rng2, list_of, part_i, seq_nx, seq_ret, seq_brk, seq_cont, if_t, if_f, own_some, own_val, own_non, sv_some, sv_none, bind_name, start0, Option.bind_some, Option.bind_none, Option.map_some, Option.map_none, List.map_cons, List.map_nil, List.length_cons, List.length_nil, List.replicate, List.cons_append, List.nil_append, List.getElem?_cons_zero, List.getElem?_cons_succ, List.set_cons_zero, List.set_cons_succ, Nat.reduceAdd, Nat.reduceSub, if_true, if_false, Bool.false_eq_true, reduceIte, decide_true, decide_false, Bool.not_true, Bool.not_false, tup_d, lst_d, sz0, sz1, sz2, sz3, sz4, sz5, bnd2, bnd2l, bnd3, set2, set3, abs_i, max2_i, lt_i, gt_i, le_i, ge_i, for_nil, sat_some, lo_nx, lo_cont, lo_brk, lo_ret, d_is_talk_k01, isi_t, ax0]; rfl) ?_
    refine stp_sat (by simp only [cmpl, exs, ex, ev, evs, evPart, evIt, sealE, sealIt, rd_val, rd_own, rd_succ, Lr.add_int, Lr.sub_int, bin_add, bin_sub, bin_mul, bin_fdiv, bin_mod, cmp_eq, cmp_ne, cmp_lt, cmp_le, cmp_gt, cmp_ge, cmp_in, cmp_notin, cmp_isN, cmp_isnotN, Lr.eq_int, Lr.ne_int, Lr.len_lst, Lr.len_tup, tuple_lst, tuple_tup, list_lst, list_tup, int_bl, bi_len, bi_tuple, bi_list, bi_int, bi_join, bi_any, bi_all, bi_index, bi_sorted, bi_min1, bi_max1, bi_max2, bi_abs, bi_sum, bi_split, idx_lst, idx_tup, Lr.sl_lst, Lr.sl_tup, and_t', and_f, or_f', or_t, blo, chain_f, chain_t, not_b, neg_i, cond_t, cond_f, rng1, rng2, list_of, part_i, seq_nx, seq_ret, seq_brk, seq_cont, if_t, if_f, own_some, own_val, own_non, sv_some, sv_none, bind_name, start0, Option.bind_some, Option.bind_none, Option.map_some, Option.map_none, List.map_cons, List.map_nil, List.length_cons, List.length_nil, List.replicate, List.cons_append, List.nil_append, List.getElem?_cons_zero, List.getElem?_cons_succ, List.set_cons_zero, List.set_cons_succ, Nat.reduceAdd, Nat.reduceSub, if_true, if_false, Bool.false_eq_true, reduceIte, decide_true, decide_false, Bool.not_true, Bool.not_false, tup_d, lst_d, sz0, sz1, sz2, sz3, sz4, sz5, bnd2, bnd2l, bnd3, set2, set3, abs_i, max2_i, lt_i, gt_i, le_i, ge_i, for_nil, sat_some, lo_nx, lo_cont, lo_brk, lo_ret, d_is_talk_k01, ax0]; rfl) ?_
    have e : talkB (.tuple [.tuple hs, p]) = (decide (1 ≤ hs.length ∧ hs.length ≤ 4) && (hs.all nameB && (decide (cntN (strs0 hs) hs.length = hs.length) && stepsBy (stepB (strs0 hs) 3) p))) := rfl
    rw [e]
    have hall : ∀ f : PyData → Option (Option PyData), (∀ c ∈ hs, f c = some (some (.bool (nameB c)))) → lcRun f hs = some (hs.map fun c => .bool (nameB c)) := fun f hf => by
      have := lcRun_map (f := f) (e := id) (xs := hs) hf
      rwa [List.map_id] at this
    by_cases q1 : 1 ≤ hs.length
    case neg =>
      rw [decide_eq_false fun h : 1 ≤ hs.length ∧ hs.length ≤ 4 => q1 h.1]
      exact ife_t (by simp only [cmpl, exs, ex, ev, evs, evPart, evIt, sealE, sealIt, rd_val, rd_own, rd_succ, Lr.add_int, Lr.sub_int, bin_add, bin_sub, bin_mul, bin_fdiv, bin_mod, cmp_eq, cmp_ne, cmp_lt, cmp_le, cmp_gt, cmp_ge, cmp_in, cmp_notin, cmp_isN, cmp_isnotN, Lr.eq_int, Lr.ne_int, Lr.len_lst, Lr.len_tup, tuple_lst, tuple_tup, list_lst, list_tup, int_bl, bi_len, bi_tuple, bi_list, bi_int, bi_join, bi_any, bi_all, bi_index, bi_sorted, bi_min1, bi_max1, bi_max2, bi_abs, bi_sum, bi_split, idx_lst, idx_tup, Lr.sl_lst, Lr.sl_tup, and_t', and_f, or_f', or_t, blo, chain_f, chain_t, not_b, neg_i, cond_t, cond_f, rng1, rng2, list_of, part_i, seq_nx, seq_ret, seq_brk, seq_cont, if_t, if_f, own_some, own_val, own_non, sv_some, sv_none, bind_name, start0, Option.bind_some, Option.bind_none, Option.map_some, Option.map_none, List.map_cons, List.map_nil, List.length_cons, List.length_nil, List.replicate, List.cons_append, List.nil_append, List.getElem?_cons_zero, List.getElem?_cons_succ, List.set_cons_zero, List.set_cons_succ, Nat.reduceAdd, Nat.reduceSub, if_true, if_false, Bool.false_eq_true, reduceIte, decide_true, decide_false, Bool.not_true, Bool.not_false, tup_d, lst_d, sz0, sz1, sz2, sz3, sz4, sz5, bnd2, bnd2l, bnd3, set2, set3, abs_i, max2_i, lt_i, gt_i, le_i, ge_i, for_nil, sat_some, lo_nx, lo_cont, lo_brk, lo_ret, d_is_talk_k01, G.hands, decide_eq_false (show ¬ (1 : Int) ≤ (hs.length : Nat) by omega)]) (ret_sat rfl rfl)
    by_cases q2 : hs.length ≤ 4
    case neg =>
      rw [decide_eq_false fun h : 1 ≤ hs.length ∧ hs.length ≤ 4 => q2 h.2]
      exact ife_t (by simp only [cmpl, exs, ex, ev, evs, evPart, evIt, sealE, sealIt, rd_val, rd_own, rd_succ, Lr.add_int, Lr.sub_int, bin_add, bin_sub, bin_mul, bin_fdiv, bin_mod, cmp_eq, cmp_ne, cmp_lt, cmp_le, cmp_gt, cmp_ge, cmp_in, cmp_notin, cmp_isN, cmp_isnotN, Lr.eq_int, Lr.ne_int, Lr.len_lst, Lr.len_tup, tuple_lst, tuple_tup, list_lst, list_tup, int_bl, bi_len, bi_tuple, bi_list, bi_int, bi_join, bi_any, bi_all, bi_index, bi_sorted, bi_min1, bi_max1, bi_max2, bi_abs, bi_sum, bi_split, idx_lst, idx_tup, Lr.sl_lst, Lr.sl_tup, and_t', and_f, or_f', or_t, blo, chain_f, chain_t, not_b, neg_i, cond_t, cond_f, rng1, rng2, list_of, part_i, seq_nx, seq_ret, seq_brk, seq_cont, if_t, if_f, own_some, own_val, own_non, sv_some, sv_none, bind_name, start0, Option.bind_some, Option.bind_none, Option.map_some, Option.map_none, List.map_cons, List.map_nil, List.length_cons, List.length_nil, List.replicate, List.cons_append, List.nil_append, List.getElem?_cons_zero, List.getElem?_cons_succ, List.set_cons_zero, List.set_cons_succ, Nat.reduceAdd, Nat.reduceSub, if_true, if_false, Bool.false_eq_true, reduceIte, decide_true, decide_false, Bool.not_true, Bool.not_false, tup_d, lst_d, sz0, sz1, sz2, sz3, sz4, sz5, bnd2, bnd2l, bnd3, set2, set3, abs_i, max2_i, lt_i, gt_i, le_i, ge_i, for_nil, sat_some, lo_nx, lo_cont, lo_brk, lo_ret, d_is_talk_k01, G.hands, decide_eq_true (show (1 : Int) ≤ (hs.length : Nat) by omega), decide_eq_false (show ¬ ((hs.length : Nat) : Int) ≤ 4 by omega)]) (ret_sat rfl rfl)
    rw [decide_eq_true (show 1 ≤ hs.length ∧ hs.length ≤ 4 from ⟨q1, q2⟩), Bool.true_and]
    refine ife_b (k := !hs.all nameB) ?_ (fun h => ?_) (fun h => ?_)
    · simp only [cmpl, exs, ex, ev, evs, evPart, evIt, sealE, sealIt, rd_val, rd_own, rd_succ, Lr.add_int, Lr.sub_int, bin_add, bin_sub, bin_mul, bin_fdiv, bin_mod, cmp_eq, cmp_ne, cmp_lt, cmp_le, cmp_gt, cmp_ge, cmp_in, cmp_notin, cmp_isN, cmp_isnotN, Lr.eq_int, Lr.ne_int, Lr.len_lst, Lr.len_tup, tuple_lst, tuple_tup, list_lst, list_tup, int_bl, bi_len, bi_tuple, bi_list, bi_int, bi_join, bi_any, bi_all, bi_index, bi_sorted, bi_min1, bi_max1, bi_max2, bi_abs, bi_sum, bi_split, idx_lst, idx_tup, Lr.sl_lst, Lr.sl_tup, and_t', and_f, or_f', or_t, blo, chain_f, chain_t, not_b, neg_i, cond_t, cond_f, rng1, rng2, list_of, part_i, seq_nx, seq_ret, seq_brk, seq_cont, if_t, if_f, own_some, own_val, own_non, sv_some, sv_none, bind_name, start0, Option.bind_some, Option.bind_none, Option.map_some, Option.map_none, List.map_cons, List.map_nil, List.length_cons, List.length_nil, List.replicate, List.cons_append, List.nil_append, List.getElem?_cons_zero, List.getElem?_cons_succ, List.set_cons_zero, List.set_cons_succ, Nat.reduceAdd, Nat.reduceSub, if_true, if_false, Bool.false_eq_true, reduceIte, decide_true, decide_false, Bool.not_true, Bool.not_false, tup_d, lst_d, sz0, sz1, sz2, sz3, sz4, sz5, bnd2, bnd2l, bnd3, set2, set3, abs_i, max2_i, lt_i, gt_i, le_i, ge_i, for_nil, sat_some, lo_nx, lo_cont, lo_brk, lo_ret, d_is_talk_k01, G.hands, decide_eq_true (show (1 : Int) ≤ (hs.length : Nat) by omega), decide_eq_true (show ((hs.length : Nat) : Int) ≤ 4 by omega), seqI_tup, sz_ok (show hs.length ≤ 16777216 by omega)]
      rw [hall _ fun c hc => by simp only [cmpl, exs, ex, ev, evs, evPart, evIt, sealE, sealIt, rd_val, rd_own, rd_succ, Lr.add_int, Lr.sub_int, bin_add, bin_sub, bin_mul, bin_fdiv, bin_mod, cmp_eq, cmp_ne, cmp_lt, cmp_le, cmp_gt, cmp_ge, cmp_in, cmp_notin, cmp_isN, cmp_isnotN, Lr.eq_int, Lr.ne_int, Lr.len_lst, Lr.len_tup, tuple_lst, tuple_tup, list_lst, list_tup, int_bl, bi_len, bi_tuple, bi_list, bi_int, bi_join, bi_any, bi_all, bi_index, bi_sorted, bi_min1, bi_max1, bi_max2, bi_abs, bi_sum, bi_split, idx_lst, idx_tup, Lr.sl_lst, Lr.sl_tup, and_t', and_f, or_f', or_t, blo, chain_f, chain_t, not_b, neg_i, cond_t, cond_f, rng1, rng2, list_of, part_i, seq_nx, seq_ret, seq_brk, seq_cont, if_t, if_f, own_some, own_val, own_non, sv_some, sv_none, bind_name, start0, Option.bind_some, Option.bind_none, Option.map_some, Option.map_none, List.map_cons, List.map_nil, List.length_cons, List.length_nil, List.replicate, List.cons_append, List.nil_append, List.getElem?_cons_zero, List.getElem?_cons_succ, List.set_cons_zero, List.set_cons_succ, Nat.reduceAdd, Nat.reduceSub, if_true, if_false, Bool.false_eq_true, reduceIte, decide_true, decide_false, Bool.not_true, Bool.not_false, tup_d, lst_d, sz0, sz1, sz2, sz3, sz4, sz5, bnd2, bnd2l, bnd3, set2, set3, abs_i, max2_i, lt_i, gt_i, le_i, ge_i, for_nil, sat_some, lo_nx, lo_cont, lo_brk, lo_ret, isname_ok A.name G (hhe c hc) (show 1 ≤ j + 1 by omega)]]
      simp only [cmpl, exs, ex, ev, evs, evPart, evIt, sealE, sealIt, rd_val, rd_own, rd_succ, Lr.add_int, Lr.sub_int, bin_add, bin_sub, bin_mul, bin_fdiv, bin_mod, cmp_eq, cmp_ne, cmp_lt, cmp_le, cmp_gt, cmp_ge, cmp_in, cmp_notin, cmp_isN, cmp_isnotN, Lr.eq_int, Lr.ne_int, Lr.len_lst, Lr.len_tup, tuple_lst, tuple_tup, list_lst, list_tup, int_bl, bi_len, bi_tuple, bi_list, bi_int, bi_join, bi_any, bi_all, bi_index, bi_sorted, bi_min1, bi_max1, bi_max2, bi_abs, bi_sum, bi_split, idx_lst, idx_tup, Lr.sl_lst, Lr.sl_tup, and_t', and_f, or_f', or_t, blo, chain_f, chain_t, not_b, neg_i, cond_t, cond_f, rng1, rng2, list_of, part_i, seq_nx, seq_ret, seq_brk, seq_cont, if_t, if_f, own_some, own_val, own_non, sv_some, sv_none, bind_name, start0, Option.bind_some, Option.bind_none, Option.map_some, Option.map_none, List.map_cons, List.map_nil, List.length_cons, List.length_nil, List.replicate, List.cons_append, List.nil_append, List.getElem?_cons_zero, List.getElem?_cons_succ, List.set_cons_zero, List.set_cons_succ, Nat.reduceAdd, Nat.reduceSub, if_true, if_false, Bool.false_eq_true, reduceIte, decide_true, decide_false, Bool.not_true, Bool.not_false, tup_d, lst_d, sz0, sz1, sz2, sz3, sz4, sz5, bnd2, bnd2l, bnd3, set2, set3, abs_i, max2_i, lt_i, gt_i, le_i, ge_i, for_nil, sat_some, lo_nx, lo_cont, lo_brk, lo_ret, all_map]
    · have h : hs.all nameB = false := by simpa using h
      rw [h]
      exact ret_sat rfl rfl
    · have h : hs.all nameB = true := by simpa using h
      obtain ⟨h1, h2⟩ := names_of h
      have h3 : (strs0 hs).length = hs.length := by conv => rhs; rw [h1]
                                                    rw [List.length_map]
      rw [h, Bool.true_and, ← h3]
      refine ret_sat ?_ rfl
      have els : lenSetEv [.tuple hs] = some (.int (cntN (strs0 hs) (strs0 hs).length : Nat)) := by
        have := ls_strs (zs := strs0 hs) (by omega)
        rwa [← h1] at this
      have ecl : callAt T g fu (j + 1) "are_steps" [p, .tuple hs, .int 3] = some (.bool (stepsBy (stepB (strs0 hs) 3) p)) := by
        have := aresteps_of (fu := fu) (T := T) (k := j) (hs := strs0 hs) (deep := 3) A.steps G hL (fun e he => isstep_ok A.toAsT G hL h2 3 j (by omega) he) hp
        unfold hsD at this
        rwa [← h1] at this
      by_cases q : cntN (strs0 hs) (strs0 hs).length = (strs0 hs).length
      · simp only [cmpl, exs, ex, ev, evs, evPart, evIt, sealE, sealIt, rd_val, rd_own, rd_succ, Lr.add_int, Lr.sub_int, bin_add, bin_sub, bin_mul, bin_fdiv, bin_mod, cmp_eq, cmp_ne, cmp_lt, cmp_le, cmp_gt, cmp_ge, cmp_in, cmp_notin, cmp_isN, cmp_isnotN, Lr.eq_int, Lr.ne_int, Lr.len_lst, Lr.len_tup, tuple_lst, tuple_tup, list_lst, list_tup, int_bl, bi_len, bi_tuple, bi_list, bi_int, bi_join, bi_any, bi_all, bi_index, bi_sorted, bi_min1, bi_max1, bi_max2, bi_abs, bi_sum, bi_split, idx_lst, idx_tup, Lr.sl_lst, Lr.sl_tup, and_t', and_f, or_f', or_t, blo, chain_f, chain_t, not_b, neg_i, cond_t, cond_f, rng1, rng2, list_of, part_i, seq_nx, seq_ret, seq_brk, seq_cont, if_t, if_f, own_some, own_val, own_non, sv_some, sv_none, bind_name, start0, Option.bind_some, Option.bind_none, Option.map_some, Option.map_none, List.map_cons, List.map_nil, List.length_cons, List.length_nil, List.replicate, List.cons_append, List.nil_append, List.getElem?_cons_zero, List.getElem?_cons_succ, List.set_cons_zero, List.set_cons_succ, Nat.reduceAdd, Nat.reduceSub, if_true, if_false, Bool.false_eq_true, reduceIte, decide_true, decide_false, Bool.not_true, Bool.not_false, tup_d, lst_d, sz0, sz1, sz2, sz3, sz4, sz5, bnd2, bnd2l, bnd3, set2, set3, abs_i, max2_i, lt_i, gt_i, le_i, ge_i, for_nil, sat_some, lo_nx, lo_cont, lo_brk, lo_ret, d_is_talk_k01, bi_ls, els, ax1, hg, ecl, decide_eq_true (show ((cntN (strs0 hs) (strs0 hs).length : Nat) : Int) = (hs.length : Nat) by omega), decide_eq_true q, Bool.true_and]
      · simp only [cmpl, exs, ex, ev, evs, evPart, evIt, sealE, sealIt, rd_val, rd_own, rd_succ, Lr.add_int, Lr.sub_int, bin_add, bin_sub, bin_mul, bin_fdiv, bin_mod, cmp_eq, cmp_ne, cmp_lt, cmp_le, cmp_gt, cmp_ge, cmp_in, cmp_notin, cmp_isN, cmp_isnotN, Lr.eq_int, Lr.ne_int, Lr.len_lst, Lr.len_tup, tuple_lst, tuple_tup, list_lst, list_tup, int_bl, bi_len, bi_tuple, bi_list, bi_int, bi_join, bi_any, bi_all, bi_index, bi_sorted, bi_min1, bi_max1, bi_max2, bi_abs, bi_sum, bi_split, idx_lst, idx_tup, Lr.sl_lst, Lr.sl_tup, and_t', and_f, or_f', or_t, blo, chain_f, chain_t, not_b, neg_i, cond_t, cond_f, rng1, rng2, list_of, part_i, seq_nx, seq_ret, seq_brk, seq_cont, if_t, if_f, own_some, own_val, own_non, sv_some, sv_none, bind_name, start0, Option.bind_some, Option.bind_none, Option.map_some, Option.map_none, List.map_cons, List.map_nil, List.length_cons, List.length_nil, List.replicate, List.cons_append, List.nil_append, List.getElem?_cons_zero, List.getElem?_cons_succ, List.set_cons_zero, List.set_cons_succ, Nat.reduceAdd, Nat.reduceSub, if_true, if_false, Bool.false_eq_true, reduceIte, decide_true, decide_false, Bool.not_true, Bool.not_false, tup_d, lst_d, sz0, sz1, sz2, sz3, sz4, sz5, bnd2, bnd2l, bnd3, set2, set3, abs_i, max2_i, lt_i, gt_i, le_i, ge_i, for_nil, sat_some, lo_nx, lo_cont, lo_brk, lo_ret, d_is_talk_k01, bi_ls, els, decide_eq_false (show ¬ ((cntN (strs0 hs) (strs0 hs).length : Nat) : Int) = (hs.length : Nat) by omega), decide_eq_false q, Bool.false_and]
theorem listalk_ok (A : LtT T) (hL : L ≤ 1000) (hm : m ≤ 60) {k : Nat} (hk : 2 * m + 8 ≤ k) {d : PyData} (hd : Gd L m d) : callAt T g fu k "_law_is_talk" [d] = some (.bool (talkB d)) := by
  obtain ⟨j, rfl⟩ := lvl (show 2 ≤ k by omega)
  refine call_sat (df := d_law_is_talk) A.talk rfl ?_
  by_cases ht : ∃ z, d = .tuple z
  case neg =>
    have h := not_tup (d := d) fun z e => ht ⟨z, e⟩
    rw [talkB_not h]
    exact ife_t (by simp only [cmpl, exs, ex, ev, evs, evPart, evIt, sealE, sealIt, rd_val, rd_own, rd_succ, Lr.add_int, Lr.sub_int, bin_add, bin_sub, bin_mul, bin_fdiv, bin_mod, cmp_eq, cmp_ne, cmp_lt, cmp_le, cmp_gt, cmp_ge, cmp_in, cmp_notin, cmp_isN, cmp_isnotN, Lr.eq_int, Lr.ne_int, Lr.len_lst, Lr.len_tup, tuple_lst, tuple_tup, list_lst, list_tup, int_bl, bi_len, bi_tuple, bi_list, bi_int, bi_join, bi_any, bi_all, bi_index, bi_sorted, bi_min1, bi_max1, bi_max2, bi_abs, bi_sum, bi_split, idx_lst, idx_tup, Lr.sl_lst, Lr.sl_tup, and_t', and_f, or_f', or_t, blo, chain_f, chain_t, not_b, neg_i, cond_t, cond_f, rng1, rng2, list_of, part_i, seq_nx, seq_ret, seq_brk, seq_cont, if_t, if_f, own_some, own_val, own_non, sv_some, sv_none, bind_name, start0, Option.bind_some, Option.bind_none, Option.map_some, Option.map_none, List.map_cons, List.map_nil, List.length_cons, List.length_nil, List.replicate, List.cons_append, List.nil_append, List.getElem?_cons_zero, List.getElem?_cons_succ, List.set_cons_zero, List.set_cons_succ, Nat.reduceAdd, Nat.reduceSub, if_true, if_false, Bool.false_eq_true, reduceIte, decide_true, decide_false, Bool.not_true, Bool.not_false, tup_d, lst_d, sz0, sz1, sz2, sz3, sz4, sz5, bnd2, bnd2l, bnd3, set2, set3, abs_i, max2_i, lt_i, gt_i, le_i, ge_i, for_nil, sat_some, lo_nx, lo_cont, lo_brk, lo_ret, d_law_is_talk, h]) (ret_sat rfl rfl)
  obtain ⟨ds, rfl⟩ := ht
  by_cases hl : ds.length = 2
  case neg =>
    rw [talkB_len hl]
    exact ife_t (by simp only [cmpl, exs, ex, ev, evs, evPart, evIt, sealE, sealIt, rd_val, rd_own, rd_succ, Lr.add_int, Lr.sub_int, bin_add, bin_sub, bin_mul, bin_fdiv, bin_mod, cmp_eq, cmp_ne, cmp_lt, cmp_le, cmp_gt, cmp_ge, cmp_in, cmp_notin, cmp_isN, cmp_isnotN, Lr.eq_int, Lr.ne_int, Lr.len_lst, Lr.len_tup, tuple_lst, tuple_tup, list_lst, list_tup, int_bl, bi_len, bi_tuple, bi_list, bi_int, bi_join, bi_any, bi_all, bi_index, bi_sorted, bi_min1, bi_max1, bi_max2, bi_abs, bi_sum, bi_split, idx_lst, idx_tup, Lr.sl_lst, Lr.sl_tup, and_t', and_f, or_f', or_t, blo, chain_f, chain_t, not_b, neg_i, cond_t, cond_f, rng1, rng2, list_of, part_i, seq_nx, seq_ret, seq_brk, seq_cont, if_t, if_f, own_some, own_val, own_non, sv_some, sv_none, bind_name, start0, Option.bind_some, Option.bind_none, Option.map_some, Option.map_none, List.map_cons, List.map_nil, List.length_cons, List.length_nil, List.replicate, List.cons_append, List.nil_append, List.getElem?_cons_zero, List.getElem?_cons_succ, List.set_cons_zero, List.set_cons_succ, Nat.reduceAdd, Nat.reduceSub, if_true, if_false, Bool.false_eq_true, reduceIte, decide_true, decide_false, Bool.not_true, Bool.not_false, tup_d, lst_d, sz0, sz1, sz2, sz3, sz4, sz5, bnd2, bnd2l, bnd3, set2, set3, abs_i, max2_i, lt_i, gt_i, le_i, ge_i, for_nil, sat_some, lo_nx, lo_cont, lo_brk, lo_ret, d_law_is_talk, isi_t, decide_eq_false (show ¬ ((ds.length : Nat) : Int) = 2 by omega)]) (ret_sat rfl rfl)
  obtain ⟨n, rfl, _, he⟩ := gd_tup hd
  match ds, hl, he with
  | [x, p], _, he =>
    have hp := (he p (by simp)).mono (Nat.le_refl _) (Nat.le_succ n)
    by_cases hx : ∃ z, x = .tuple z
    case neg =>
      have h := not_tup (d := x) fun z e => hx ⟨z, e⟩
      rw [talkB_fst h]
      exact ife_t (by simp only [cmpl, exs, ex, ev, evs, evPart, evIt, sealE, sealIt, rd_val, rd_own, rd_succ, Lr.add_int, Lr.sub_int, bin_add, bin_sub, bin_mul, bin_fdiv, bin_mod, cmp_eq, cmp_ne, cmp_lt, cmp_le, cmp_gt, cmp_ge, cmp_in, cmp_notin, cmp_isN, cmp_isnotN, Lr.eq_int, Lr.ne_int, Lr.len_lst, Lr.len_tup, tuple_lst, tuple_tup, list_lst, list_tup, int_bl, bi_len, bi_tuple, bi_list, bi_int, bi_join, bi_any, bi_all, bi_index, bi_sorted, bi_min1, bi_max1, bi_max2, bi_abs, bi_sum, bi_split, idx_lst, idx_tup, Lr.sl_lst, Lr.sl_tup, and_t', and_f, or_f', or_t, blo, chain_f, chain_t, not_b, neg_i, cond_t, cond_f, rng1, rng2, list_of, part_i, seq_nx, seq_ret, seq_brk, seq_cont, if_t, if_f, own_some, own_val, own_non, sv_some, sv_none, bind_name, start0, Option.bind_some, Option.bind_none, Option.map_some, Option.map_none, List.map_cons, List.map_nil, List.length_cons, List.length_nil, List.replicate, List.cons_append, List.nil_append, List.getElem?_cons_zero, List.getElem?_cons_succ, List.set_cons_zero, List.set_cons_succ, Nat.reduceAdd, Nat.reduceSub, if_true, if_false, Bool.false_eq_true, reduceIte, decide_true, decide_false, Bool.not_true, Bool.not_false, tup_d, lst_d, sz0, sz1, sz2, sz3, sz4, sz5, bnd2, bnd2l, bnd3, set2, set3, abs_i, max2_i, lt_i, gt_i, le_i, ge_i, for_nil, sat_some, lo_nx, lo_cont, lo_brk, lo_ret, d_law_is_talk, isi_t, ax0, h]; rfl) (ret_sat rfl rfl)
    obtain ⟨hs, rfl⟩ := hx
    obtain ⟨n', rfl, hhl, hhe⟩ := gd_tup (he (.tuple hs) (by simp))
    refine ife_f (by simp only [cmpl, exs, ex, ev, evs, evPart, evIt, sealE, sealIt, rd_val, rd_own, rd_succ, Lr.add_int, Lr.sub_int, bin_add, bin_sub, bin_mul, bin_fdiv, bin_mod, cmp_eq, cmp_ne, cmp_lt, cmp_le, cmp_gt, cmp_ge, cmp_in, cmp_notin, cmp_isN, cmp_isnotN, Lr.eq_int, Lr.ne_int, Lr.len_lst, Lr.len_tup, tuple_lst, tuple_tup, list_lst, list_tup, int_bl, bi_len, bi_tuple, bi_list, bi_int, bi_join, bi_any, bi_all, bi_index, bi_sorted, bi_min1, bi_max1, bi_max2, bi_abs, bi_sum, bi_split, idx_lst, idx_tup, Lr.sl_lst, Lr.sl_tup, and_t', and_f, or_f', or_t, blo, chain_f, chain_t, not_b, neg_i, cond_t, cond_f, rng1, rng2, list_of, part_i, seq_nx, seq_ret, seq_brk, seq_cont, if_t, if_f, own_some, own_val, own_non, sv_some, sv_none, bind_name, start0, Option.bind_some, Option.bind_none, Option.map_some, Option.map_none, List.map_cons, List.map_nil, List.length_cons, List.length_nil, List.replicate, List.cons_append, List.nil_append, List.getElem?_cons_zero, List.getElem?_cons_succ, List.set_cons_zero, List.set_cons_succ, Nat.reduceAdd, Nat.reduceSub, if_true, if_false, Bool.false_eq_true, reduceIte, decide_true, decide_false, Bool.not_true, Bool.not_false, tup_d, lst_d, sz0, sz1, sz2, sz3, sz4, sz5, bnd2, bnd2l, bnd3, set2, set3, abs_i, max2_i, lt_i, gt_i, le_i, ge_i, for_nil, sat_some, lo_nx, lo_cont, lo_brk, lo_ret, d_law_is_talk, isi_t, ax0]; rfl) ?_
    have e : talkB (.tuple [.tuple hs, p]) = (decide (1 ≤ hs.length ∧ hs.length ≤ 4) && (hs.all nameB && (decide (cntN (strs0 hs) hs.length = hs.length) && stepsBy (stepB (strs0 hs) 3) p))) := rfl
    rw [e]
    by_cases q1 : 1 ≤ hs.length
    case neg =>
      rw [decide_eq_false fun h : 1 ≤ hs.length ∧ hs.length ≤ 4 => q1 h.1]
      exact ife_t (by simp only [cmpl, exs, ex, ev, evs, evPart, evIt, sealE, sealIt, rd_val, rd_own, rd_succ, Lr.add_int, Lr.sub_int, bin_add, bin_sub, bin_mul, bin_fdiv, bin_mod, cmp_eq, cmp_ne, cmp_lt, cmp_le, cmp_gt, cmp_ge, cmp_in, cmp_notin, cmp_isN, cmp_isnotN, Lr.eq_int, Lr.ne_int, Lr.len_lst, Lr.len_tup, tuple_lst, tuple_tup, list_lst, list_tup, int_bl, bi_len, bi_tuple, bi_list, bi_int, bi_join, bi_any, bi_all, bi_index, bi_sorted, bi_min1, bi_max1, bi_max2, bi_abs, bi_sum, bi_split, idx_lst, idx_tup, Lr.sl_lst, Lr.sl_tup, and_t', and_f, or_f', or_t, blo, chain_f, chain_t, not_b, neg_i, cond_t, cond_f, rng1, rng2, list_of, part_i, seq_nx, seq_ret, seq_brk, seq_cont, if_t, if_f, own_some, own_val, own_non, sv_some, sv_none, bind_name, start0, Option.bind_some, Option.bind_none, Option.map_some, Option.map_none, List.map_cons, List.map_nil, List.length_cons, List.length_nil, List.replicate, List.cons_append, List.nil_append, List.getElem?_cons_zero, List.getElem?_cons_succ, List.set_cons_zero, List.set_cons_succ, Nat.reduceAdd, Nat.reduceSub, if_true, if_false, Bool.false_eq_true, reduceIte, decide_true, decide_false, Bool.not_true, Bool.not_false, tup_d, lst_d, sz0, sz1, sz2, sz3, sz4, sz5, bnd2, bnd2l, bnd3, set2, set3, abs_i, max2_i, lt_i, gt_i, le_i, ge_i, for_nil, sat_some, lo_nx, lo_cont, lo_brk, lo_ret, d_law_is_talk, ax0, decide_eq_false (show ¬ (1 : Int) ≤ (hs.length : Nat) by omega)]) (ret_sat rfl rfl)
    by_cases q2 : hs.length ≤ 4
    case neg =>
      rw [decide_eq_false fun h : 1 ≤ hs.length ∧ hs.length ≤ 4 => q2 h.2]
      exact ife_t (by simp only [cmpl, exs, ex, ev, evs, evPart, evIt, sealE, sealIt, rd_val, rd_own, rd_succ, Lr.add_int, Lr.sub_int, bin_add, bin_sub, bin_mul, bin_fdiv, bin_mod, cmp_eq, cmp_ne, cmp_lt, cmp_le, cmp_gt, cmp_ge, cmp_in, cmp_notin, cmp_isN, cmp_isnotN, Lr.eq_int, Lr.ne_int, Lr.len_lst, Lr.len_tup, tuple_lst, tuple_tup, list_lst, list_tup, int_bl, bi_len, bi_tuple, bi_list, bi_int, bi_join, bi_any, bi_all, bi_index, bi_sorted, bi_min1, bi_max1, bi_max2, bi_abs, bi_sum, bi_split, idx_lst, idx_tup, Lr.sl_lst, Lr.sl_tup, and_t', and_f, or_f', or_t, blo, chain_f, chain_t, not_b, neg_i, cond_t, cond_f, rng1, rng2, list_of, part_i, seq_nx, seq_ret, seq_brk, seq_cont, if_t, if_f, own_some, own_val, own_non, sv_some, sv_none, bind_name, start0, Option.bind_some, Option.bind_none, Option.map_some, Option.map_none, List.map_cons, List.map_nil, List.length_cons, List.length_nil, List.replicate, List.cons_append, List.nil_append, List.getElem?_cons_zero, List.getElem?_cons_succ, List.set_cons_zero, List.set_cons_succ, Nat.reduceAdd, Nat.reduceSub, if_true, if_false, Bool.false_eq_true, reduceIte, decide_true, decide_false, Bool.not_true, Bool.not_false, tup_d, lst_d, sz0, sz1, sz2, sz3, sz4, sz5, bnd2, bnd2l, bnd3, set2, set3, abs_i, max2_i, lt_i, gt_i, le_i, ge_i, for_nil, sat_some, lo_nx, lo_cont, lo_brk, lo_ret, d_law_is_talk, ax0, decide_eq_true (show (1 : Int) ≤ (hs.length : Nat) by omega), decide_eq_false (show ¬ ((hs.length : Nat) : Int) ≤ 4 by omega)]) (ret_sat rfl rfl)
    rw [decide_eq_true (show 1 ≤ hs.length ∧ hs.length ≤ 4 from ⟨q1, q2⟩), Bool.true_and]
    refine ife_b (k := !hs.all nameB) ?_ (fun h => ?_) (fun h => ?_)
    · simp only [cmpl, exs, ex, ev, evs, evPart, evIt, sealE, sealIt, rd_val, rd_own, rd_succ, Lr.add_int, Lr.sub_int, bin_add, bin_sub, bin_mul, bin_fdiv, bin_mod, cmp_eq, cmp_ne, cmp_lt, cmp_le, cmp_gt, cmp_ge, cmp_in, cmp_notin, cmp_isN, cmp_isnotN, Lr.eq_int, Lr.ne_int, Lr.len_lst, Lr.len_tup, tuple_lst, tuple_tup, list_lst, list_tup, int_bl, bi_len, bi_tuple, bi_list, bi_int, bi_join, bi_any, bi_all, bi_index, bi_sorted, bi_min1, bi_max1, bi_max2, bi_abs, bi_sum, bi_split, idx_lst, idx_tup, Lr.sl_lst, Lr.sl_tup, and_t', and_f, or_f', or_t, blo, chain_f, chain_t, not_b, neg_i, cond_t, cond_f, rng1, rng2, list_of, part_i, seq_nx, seq_ret, seq_brk, seq_cont, if_t, if_f, own_some, own_val, own_non, sv_some, sv_none, bind_name, start0, Option.bind_some, Option.bind_none, Option.map_some, Option.map_none, List.map_cons, List.map_nil, List.length_cons, List.length_nil, List.replicate, List.cons_append, List.nil_append, List.getElem?_cons_zero, List.getElem?_cons_succ, List.set_cons_zero, List.set_cons_succ, Nat.reduceAdd, Nat.reduceSub, if_true, if_false, Bool.false_eq_true, reduceIte, decide_true, decide_false, Bool.not_true, Bool.not_false, tup_d, lst_d, sz0, sz1, sz2, sz3, sz4, sz5, bnd2, bnd2l, bnd3, set2, set3, abs_i, max2_i, lt_i, gt_i, le_i, ge_i, for_nil, sat_some, lo_nx, lo_cont, lo_brk, lo_ret, d_law_is_talk, ax0, decide_eq_true (show (1 : Int) ≤ (hs.length : Nat) by omega), decide_eq_true (show ((hs.length : Nat) : Int) ≤ 4 by omega), seqI_tup, sz_ok (show hs.length ≤ 16777216 by omega)]
      rw [filt_self (p := fun e => !nameB e) fun c hc => by
        simp only [cmpl, exs, ex, ev, evs, evPart, evIt, sealE, sealIt, rd_val, rd_own, rd_succ, Lr.add_int, Lr.sub_int, bin_add, bin_sub, bin_mul, bin_fdiv, bin_mod, cmp_eq, cmp_ne, cmp_lt, cmp_le, cmp_gt, cmp_ge, cmp_in, cmp_notin, cmp_isN, cmp_isnotN, Lr.eq_int, Lr.ne_int, Lr.len_lst, Lr.len_tup, tuple_lst, tuple_tup, list_lst, list_tup, int_bl, bi_len, bi_tuple, bi_list, bi_int, bi_join, bi_any, bi_all, bi_index, bi_sorted, bi_min1, bi_max1, bi_max2, bi_abs, bi_sum, bi_split, idx_lst, idx_tup, Lr.sl_lst, Lr.sl_tup, and_t', and_f, or_f', or_t, blo, chain_f, chain_t, not_b, neg_i, cond_t, cond_f, rng1, rng2, list_of, part_i, seq_nx, seq_ret, seq_brk, seq_cont, if_t, if_f, own_some, own_val, own_non, sv_some, sv_none, bind_name, start0, Option.bind_some, Option.bind_none, Option.map_some, Option.map_none, List.map_cons, List.map_nil, List.length_cons, List.length_nil, List.replicate, List.cons_append, List.nil_append, List.getElem?_cons_zero, List.getElem?_cons_succ, List.set_cons_zero, List.set_cons_succ, Nat.reduceAdd, Nat.reduceSub, if_true, if_false, Bool.false_eq_true, reduceIte, decide_true, decide_false, Bool.not_true, Bool.not_false, tup_d, lst_d, sz0, sz1, sz2, sz3, sz4, sz5, bnd2, bnd2l, bnd3, set2, set3, abs_i, max2_i, lt_i, gt_i, le_i, ge_i, for_nil, sat_some, lo_nx, lo_cont, lo_brk, lo_ret, lisname_ok A.name (hhe c hc) (show 1 ≤ j + 1 by omega)]
        cases nameB c <;> rfl]
      simp only [cmpl, exs, ex, ev, evs, evPart, evIt, sealE, sealIt, rd_val, rd_own, rd_succ, Lr.add_int, Lr.sub_int, bin_add, bin_sub, bin_mul, bin_fdiv, bin_mod, cmp_eq, cmp_ne, cmp_lt, cmp_le, cmp_gt, cmp_ge, cmp_in, cmp_notin, cmp_isN, cmp_isnotN, Lr.eq_int, Lr.ne_int, Lr.len_lst, Lr.len_tup, tuple_lst, tuple_tup, list_lst, list_tup, int_bl, bi_len, bi_tuple, bi_list, bi_int, bi_join, bi_any, bi_all, bi_index, bi_sorted, bi_min1, bi_max1, bi_max2, bi_abs, bi_sum, bi_split, idx_lst, idx_tup, Lr.sl_lst, Lr.sl_tup, and_t', and_f, or_f', or_t, blo, chain_f, chain_t, not_b, neg_i, cond_t, cond_f, rng1, rng2, list_of, part_i, seq_nx, seq_ret, seq_brk, seq_cont, if_t, if_f, own_some, own_val, own_non, sv_some, sv_none, bind_name, start0, Option.bind_some, Option.bind_none, Option.map_some, Option.map_none, List.map_cons, List.map_nil, List.length_cons, List.length_nil, List.replicate, List.cons_append, List.nil_append, List.getElem?_cons_zero, List.getElem?_cons_succ, List.set_cons_zero, List.set_cons_succ, Nat.reduceAdd, Nat.reduceSub, if_true, if_false, Bool.false_eq_true, reduceIte, decide_true, decide_false, Bool.not_true, Bool.not_false, tup_d, lst_d, sz0, sz1, sz2, sz3, sz4, sz5, bnd2, bnd2l, bnd3, set2, set3, abs_i, max2_i, lt_i, gt_i, le_i, ge_i, for_nil, sat_some, lo_nx, lo_cont, lo_brk, lo_ret, nenil (lay_filt hhe) (show n' + 1 ≤ 64 by omega), filt_all]
    · have h : hs.all nameB = false := by simpa using h
      rw [h]
      exact ret_sat rfl rfl
    · have h : hs.all nameB = true := by simpa using h
      obtain ⟨h1, h2⟩ := names_of h
      have h3 : (strs0 hs).length = hs.length := by conv => rhs; rw [h1]
                                                    rw [List.length_map]
      rw [h, Bool.true_and, ← h3]
      refine ret_sat ?_ rfl
      have els : lenSetEv [.tuple hs] = some (.int (cntN (strs0 hs) (strs0 hs).length : Nat)) := by
        have := ls_strs (zs := strs0 hs) (by omega)
        rwa [← h1] at this
      have ecl : callAt T g fu (j + 1) "_law_are_steps" [p, .tuple hs, .int 3] = some (.bool (stepsBy (stepB (strs0 hs) 3) p)) := by
        have := laresteps_of (fu := fu) (g := g) (T := T) (m := n' + 1 + 1) (L := L) (k := j) (hs := strs0 hs) (deep := 3) A.steps hL (by omega) (fun e he => lisstep_ok A.toLsT hL h2 (n' + 1) j (by omega) (by omega) (deep := 3) he) (hp.mono (Nat.le_refl _) (by omega))
        unfold hsD at this
        rwa [← h1] at this
      by_cases q : cntN (strs0 hs) (strs0 hs).length = (strs0 hs).length
      · simp only [cmpl, exs, ex, ev, evs, evPart, evIt, sealE, sealIt, rd_val, rd_own, rd_succ, Lr.add_int, Lr.sub_int, bin_add, bin_sub, bin_mul, bin_fdiv, bin_mod, cmp_eq, cmp_ne, cmp_lt, cmp_le, cmp_gt, cmp_ge, cmp_in, cmp_notin, cmp_isN, cmp_isnotN, Lr.eq_int, Lr.ne_int, Lr.len_lst, Lr.len_tup, tuple_lst, tuple_tup, list_lst, list_tup, int_bl, bi_len, bi_tuple, bi_list, bi_int, bi_join, bi_any, bi_all, bi_index, bi_sorted, bi_min1, bi_max1, bi_max2, bi_abs, bi_sum, bi_split, idx_lst, idx_tup, Lr.sl_lst, Lr.sl_tup, and_t', and_f, or_f', or_t, blo, chain_f, chain_t, not_b, neg_i, cond_t, cond_f, rng1, rng2, list_of, part_i, seq_nx, seq_ret, seq_brk, seq_cont, if_t, if_f, own_some, own_val, own_non, sv_some, sv_none, bind_name, start0, Option.bind_some, Option.bind_none, Option.map_some, Option.map_none, List.map_cons, List.map_nil, List.length_cons, List.length_nil, List.replicate, List.cons_append, List.nil_append, List.getElem?_cons_zero, List.getElem?_cons_succ, List.set_cons_zero, List.set_cons_succ, Nat.reduceAdd, Nat.reduceSub, if_true, if_false, Bool.false_eq_true, reduceIte, decide_true, decide_false, Bool.not_true, Bool.not_false, tup_d, lst_d, sz0, sz1, sz2, sz3, sz4, sz5, bnd2, bnd2l, bnd3, set2, set3, abs_i, max2_i, lt_i, gt_i, le_i, ge_i, for_nil, sat_some, lo_nx, lo_cont, lo_brk, lo_ret, d_law_is_talk, ax0, bi_ls, els, ax1, ecl, decide_eq_true (show ((cntN (strs0 hs) (strs0 hs).length : Nat) : Int) = (hs.length : Nat) by omega), decide_eq_true q, Bool.true_and]
      · simp only [cmpl, exs, ex, ev, evs, evPart, evIt, sealE, sealIt, rd_val, rd_own, rd_succ, Lr.add_int, Lr.sub_int, bin_add, bin_sub, bin_mul, bin_fdiv, bin_mod, cmp_eq, cmp_ne, cmp_lt, cmp_le, cmp_gt, cmp_ge, cmp_in, cmp_notin, cmp_isN, cmp_isnotN, Lr.eq_int, Lr.ne_int, Lr.len_lst, Lr.len_tup, tuple_lst, tuple_tup, list_lst, list_tup, int_bl, bi_len, bi_tuple, bi_list, bi_int, bi_join, bi_any, bi_all, bi_index, bi_sorted, bi_min1, bi_max1, bi_max2, bi_abs, bi_sum, bi_split, idx_lst, idx_tup, Lr.sl_lst, Lr.sl_tup, and_t', and_f, or_f', or_t, blo, chain_f, chain_t, not_b, neg_i, cond_t, cond_f, rng1, rng2, list_of, part_i, seq_nx, seq_ret, seq_brk, seq_cont, if_t, if_f, own_some, own_val, own_non, sv_some, sv_none, bind_name, start0, Option.bind_some, Option.bind_none, Option.map_some, Option.map_none, List.map_cons, List.map_nil, List.length_cons, List.length_nil, List.replicate, List.cons_append, List.nil_append, List.getElem?_cons_zero, List.getElem?_cons_succ, List.set_cons_zero, List.set_cons_succ, Nat.reduceAdd, Nat.reduceSub, if_true, if_false, Bool.false_eq_true, reduceIte, decide_true, decide_false, Bool.not_true, Bool.not_false, tup_d, lst_d, sz0, sz1, sz2, sz3, sz4, sz5, bnd2, bnd2l, bnd3, set2, set3, abs_i, max2_i, lt_i, gt_i, le_i, ge_i, for_nil, sat_some, lo_nx, lo_cont, lo_brk, lo_ret, d_law_is_talk, ax0, bi_ls, els, decide_eq_false (show ¬ ((cntN (strs0 hs) (strs0 hs).length : Nat) : Int) = (hs.length : Nat) by omega), decide_eq_false q, Bool.false_and]
end
end Lr
namespace Lr
open PySem PySem.Spec PyProof.Rows L2
theorem gdT {L m : Nat} {ds : List PyData} (h : ds.length ≤ L) (h2 : ∀ d ∈ ds, Gd L m d) : Gd L (m + 1) (.tuple ds) := by unfold Gd; exact ⟨h, h2⟩
theorem gdL {L m : Nat} {ds : List PyData} (h : ds.length ≤ L) (h2 : ∀ d ∈ ds, Gd L m d) : Gd L (m + 1) (.list ds) := by unfold Gd; exact ⟨h, h2⟩
theorem gd_name {L m : Nat} {z : Str} (h : NameOk z) : Gd L m (.str z) := by
  have : PyData.strOk z = true ∧ z.length ≤ 1000 := ⟨strOk_of h, by have := h.2.1; omega⟩
  unfold Gd; exact this
def gdB (L : Nat) : Nat → PyData → Bool
  | _, .none => true
  | _, .bool _ => true
  | _, .int _ => true
  | _, .str z => PyData.strOk z && decide (z.length ≤ 1000)
  | m + 1, .tuple ds => decide (ds.length ≤ L) && ds.all (gdB L m)
  | m + 1, .list ds => decide (ds.length ≤ L) && ds.all (gdB L m)
  | _, _ => false
theorem gd_B {L : Nat} : ∀ {m : Nat} {d : PyData}, gdB L m d = true → Gd L m d
  | m, .none, _ => by unfold Gd; trivial
  | m, .bool _, _ => by unfold Gd; trivial
  | m, .int _, _ => by unfold Gd; trivial
  | m, .str z, h => by
    unfold gdB at h; unfold Gd
    rw [Bool.and_eq_true, decide_eq_true_eq] at h
    exact h
  | 0, .tuple ds, h => by unfold gdB at h; cases h
  | 0, .list ds, h => by unfold gdB at h; cases h
  | m + 1, .tuple ds, h => by
    unfold gdB at h
    rw [Bool.and_eq_true, decide_eq_true_eq, List.all_eq_true] at h
    exact gdT h.1 fun d hd => gd_B (h.2 d hd)
  | m + 1, .list ds, h => by
    unfold gdB at h
    rw [Bool.and_eq_true, decide_eq_true_eq, List.all_eq_true] at h
    exact gdL h.1 fun d hd => gd_B (h.2 d hd)
  | m, .dict _, h => by unfold gdB at h; cases h
theorem gd_kw {L m : Nat} {z : Str} (h : gdB L m (.str z) = true) : Gd L m (.str z) := gd_B h
theorem gd_step {hs : List Str} (hn : ∀ x ∈ hs, NameOk x) : ∀ (n : Nat) (x : Stp), x.ok hs n → Gd 4 (3 * n + 1) x.d
  | n, .tell a b w, hx => by
    obtain ⟨ha, hb, hw⟩ := ok_tell hx
    refine gdT (Nat.le_refl _) fun d hd => ?_
    simp only [List.mem_cons, List.not_mem_nil, or_false] at hd
    rcases hd with rfl | rfl | rfl | rfl
    · exact gd_name (by decide +kernel)
    · exact gd_name (hn _ ha)
    · exact gd_name (hn _ hb)
    · exact gd_name hw
  | 0, .choice bs, hx => by unfold Stp.ok at hx; exact hx.elim
  | 0, .round s, hx => by unfold Stp.ok at hx; exact hx.elim
  | 0, .both s t, hx => by unfold Stp.ok at hx; exact hx.elim
  | n + 1, .choice bs, hx => by
    unfold Stp.ok at hx
    obtain ⟨h1, h2, h3⟩ := hx
    rw [brsOk_all] at h3
    unfold Stp.d
    refine gdT (m := 3 * n + 3) (by simp) fun d hd => ?_
    simp only [List.mem_cons, List.not_mem_nil, or_false] at hd
    rcases hd with rfl | rfl
    · exact Gd.mono (Nat.le_refl 4) (Nat.zero_le _) (gd_B (m := 0) (by decide +kernel))
    · rw [brsD_map]
      refine gdT (m := 3 * n + 2) (by rw [List.length_map]; omega) fun e he => ?_
      obtain ⟨t, ht, rfl⟩ := List.mem_map.mp he
      obtain ⟨h4, h5⟩ := h3 t ht
      rw [stsD_map]
      rw [stsOk_all] at h5
      refine gdT (m := 3 * n + 1) (by rw [List.length_map]; omega) fun e he => ?_
      obtain ⟨y, hy, rfl⟩ := List.mem_map.mp he
      exact gd_step hn n y (h5 y hy)
  | n + 1, .round s, hx => by
    unfold Stp.ok at hx
    obtain ⟨h1, h5⟩ := hx
    unfold Stp.d
    rw [stsOk_all] at h5
    refine gdT (m := 3 * n + 3) (by simp) fun d hd => ?_
    simp only [List.mem_cons, List.not_mem_nil, or_false] at hd
    rcases hd with rfl | rfl
    · exact Gd.mono (Nat.le_refl 4) (Nat.zero_le _) (gd_B (m := 0) (by decide +kernel))
    · rw [stsD_map]
      refine gdT (m := 3 * n + 2) (by rw [List.length_map]; omega) fun e he => ?_
      obtain ⟨y, hy, rfl⟩ := List.mem_map.mp he
      exact (gd_step hn n y (h5 y hy)).mono (Nat.le_refl _) (by omega)
  | n + 1, .both s t, hx => by
    unfold Stp.ok at hx
    obtain ⟨h1, h5, h6, h7⟩ := hx
    unfold Stp.d
    rw [stsOk_all] at h5 h7
    refine gdT (m := 3 * n + 3) (by simp) fun d hd => ?_
    simp only [List.mem_cons, List.not_mem_nil, or_false] at hd
    rcases hd with rfl | rfl | rfl
    · exact Gd.mono (Nat.le_refl 4) (Nat.zero_le _) (gd_B (m := 0) (by decide +kernel))
    · rw [stsD_map]
      refine gdT (m := 3 * n + 2) (by rw [List.length_map]; omega) fun e he => ?_
      obtain ⟨y, hy, rfl⟩ := List.mem_map.mp he
      exact (gd_step hn n y (h5 y hy)).mono (Nat.le_refl _) (by omega)
    · rw [stsD_map]
      refine gdT (m := 3 * n + 2) (by rw [List.length_map]; omega) fun e he => ?_
      obtain ⟨y, hy, rfl⟩ := List.mem_map.mp he
      exact (gd_step hn n y (h7 y hy)).mono (Nat.le_refl _) (by omega)
theorem gd_talk {hs : List Str} {s : List Stp} {n : Nat} (hn : n ≤ 4) (ho : HandsOk hs) (hl : s.length ≤ 4) (h : stsOk hs n s) : Gd 20 15 (talkD hs s) := by
  rw [stsOk_all] at h
  refine gdT (m := 14) (by simp) fun d hd => ?_
  simp only [List.mem_cons, List.not_mem_nil, or_false] at hd
  rcases hd with rfl | rfl
  · refine gdT (m := 13) (by rw [List.length_map]; have := ho.few; omega) fun e he => ?_
    obtain ⟨y, hy, rfl⟩ := List.mem_map.mp he
    exact gd_name (ho.names y hy)
  · rw [stsD_map]
    refine gdT (m := 13) (by rw [List.length_map]; omega) fun e he => ?_
    obtain ⟨y, hy, rfl⟩ := List.mem_map.mp he
    exact (gd_step ho.names n y (h y hy)).mono (by decide) (by omega)
/-! ### spoiling -/
theorem cut_mem {xs : List PyData} {lo hi : Option Int} {d : PyData} (h : d ∈ cutA xs lo hi) : d ∈ xs := List.mem_of_mem_drop (List.mem_of_mem_take h)
theorem cut_len {xs : List PyData} {lo hi : Option Int} : (cutA xs lo hi).length ≤ xs.length := by
  unfold cutA
  rw [List.length_take, List.length_drop]
  omega
theorem at_mem {xs : List PyData} {i : Int} (h0 : 0 ≤ i) (h1 : i < xs.length) : ∃ d ∈ xs, atI xs i = some d := by
  have h3 : i.toNat < xs.length := by omega
  refine ⟨xs[i.toNat], List.getElem_mem _, ?_⟩
  have q : atI xs (i.toNat : Int) = some xs[i.toNat] := atI_nat (by simp [h3])
  rwa [Int.toNat_of_nonneg h0] at q
theorem rv_t {xs : List PyData} : revEv (.tuple xs) = some (.tuple xs.reverse) := rfl
theorem mul3 {xs : List PyData} (h : xs.length ≤ 1000) : mulEv (.tuple xs) (.int 3) = some (.tuple (xs ++ (xs ++ (xs ++ [])))) := by
  show (if repOk xs.length 3 then _ else _) = _
  rw [show repOk xs.length 3 = true from decC_t ⟨by decide, by decide, h⟩]
  rfl
theorem sz6 : szOk 6 = true := sz_ok (by decide)
theorem sz14 : szOk 14 = true := sz_ok (by decide)
theorem sz17 : szOk (14 + 3) = true := sz_ok (by decide)
theorem addT {xs ys : List PyData} (h : xs.length + ys.length ≤ 1000) : addEv (.tuple xs) (.tuple ys) = some (.tuple (xs ++ ys)) := by
  rw [add_tup, if_pos (sz_ok (by omega))]
def odds : List PyData := [.none, .bool true, .int 0, .str "", .str "a", .str "sixsix", .str "A", .str "tell", .str "round", .tuple [], .tuple [.str "a"], .tuple [.str "tell", .str "a", .str "a", .str "hi"], .list [], .str "bob", .tuple [.str "choice", .tuple []], .tuple [.str "round", .tuple []], .tuple [.str "tell", .str "zz", .str "a", .str "hi"]]
theorem odds_gd : ∀ d ∈ odds, Gd 100 3 d := by
  have : odds.all (gdB 100 3) = true := by decide +kernel
  rw [List.all_eq_true] at this
  exact fun d hd => gd_B (this d hd)
section
variable {T : Tab} {g : Str → Option PyData} {fu : Nat}
theorem fdP (i : Int) {j : Int} (h : 0 < j) (h2 : j < 1073741824) : fdivEv (.int i) (.int j) = some (.int (i / j)) := by
  rw [fdiv_int, decide_eq_true h, decide_eq_true h2]; rfl
theorem mdP (i : Int) {j : Int} (h : 0 < j) : modEv (.int i) (.int j) = some (.int (i % j)) := by
  rw [Lr.mod_int, decide_eq_true h]; rfl
theorem f6 (i : Int) : fdivEv (.int i) (.int 6) = some (.int (i / 6)) := fdP i (by decide) (by decide)
theorem f12 (i : Int) : fdivEv (.int i) (.int 12) = some (.int (i / 12)) := fdP i (by decide) (by decide)
theorem f4 (i : Int) : fdivEv (.int i) (.int 4) = some (.int (i / 4)) := fdP i (by decide) (by decide)
theorem m6 (i : Int) : modEv (.int i) (.int 6) = some (.int (i % 6)) := mdP i (by decide)
theorem m2 (i : Int) : modEv (.int i) (.int 2) = some (.int (i % 2)) := mdP i (by decide)
theorem m17 (i : Int) : modEv (.int i) (.int 17) = some (.int (i % 17)) := mdP i (by decide)
def spRest : Ss := match d_law_spoilt.body with | .cons _ r => r | .nil => .nil
def spRest2 : Ss := match spRest with | .cons _ r => r | .nil => .nil
theorem sp_odds {c : Cfg} {d : PyData} {n deep : Int} : ∃ d' ∈ odds, Sat (exs c [.val d, .val (.int n), .val (.int deep), .none, .none, .none] spRest2) fun o => o = .ret d' := by
  obtain ⟨d', h1, h2⟩ := at_mem (xs := odds) (i := n / 6 % 17) (Int.emod_nonneg _ (by decide)) (Int.emod_lt_of_pos _ (by decide))
  refine ⟨d', h1, ?_⟩
  refine stp_sat (by simp only [cmpl, exs, ex, ev, evs, evPart, evIt, sealE, sealIt, rd_val, rd_own, rd_succ, Lr.add_int, Lr.sub_int, bin_add, bin_sub, bin_mul, bin_fdiv, bin_mod, cmp_eq, cmp_ne, cmp_lt, cmp_le, cmp_gt, cmp_ge, cmp_in, cmp_notin, cmp_isN, cmp_isnotN, Lr.eq_int, Lr.ne_int, Lr.len_lst, Lr.len_tup, tuple_lst, tuple_tup, list_lst, list_tup, int_bl, bi_len, bi_tuple, bi_list, bi_int, bi_join, bi_any, bi_all, bi_index, bi_sorted, bi_min1, bi_max1, bi_max2, bi_abs, bi_sum, bi_split, idx_lst, idx_tup, Lr.sl_lst, Lr.sl_tup, and_t', and_f, or_f', or_t, blo, chain_f, chain_t, not_b, neg_i, cond_t, cond_f, rng1, rng2, list_of, part_i, seq_nx, seq_ret, seq_brk, seq_cont, if_t, if_f, own_some, own_val, own_non, sv_some, sv_none, bind_name, start0, Option.bind_some, Option.bind_none, Option.map_some, Option.map_none, List.map_cons, List.map_nil, List.length_cons, List.length_nil, List.replicate, List.cons_append, List.nil_append, List.getElem?_cons_zero, List.getElem?_cons_succ, List.set_cons_zero, List.set_cons_succ, Nat.reduceAdd, Nat.reduceSub, if_true, if_false, Bool.false_eq_true, reduceIte, decide_true, decide_false, Bool.not_true, Bool.not_false, tup_d, lst_d, sz0, sz1, sz2, sz3, sz4, sz5, bnd2, bnd2l, bnd3, set2, set3, abs_i, max2_i, lt_i, gt_i, le_i, ge_i, for_nil, sat_some, lo_nx, lo_cont, lo_brk, lo_ret, sz14]; rfl) (ret_sat ?_ rfl)
  simp only [cmpl, exs, ex, ev, evs, evPart, evIt, sealE, sealIt, rd_val, rd_own, rd_succ, Lr.add_int, Lr.sub_int, bin_add, bin_sub, bin_mul, bin_fdiv, bin_mod, cmp_eq, cmp_ne, cmp_lt, cmp_le, cmp_gt, cmp_ge, cmp_in, cmp_notin, cmp_isN, cmp_isnotN, Lr.eq_int, Lr.ne_int, Lr.len_lst, Lr.len_tup, tuple_lst, tuple_tup, list_lst, list_tup, int_bl, bi_len, bi_tuple, bi_list, bi_int, bi_join, bi_any, bi_all, bi_index, bi_sorted, bi_min1, bi_max1, bi_max2, bi_abs, bi_sum, bi_split, idx_lst, idx_tup, Lr.sl_lst, Lr.sl_tup, and_t', and_f, or_f', or_t, blo, chain_f, chain_t, not_b, neg_i, cond_t, cond_f, rng1, rng2, list_of, part_i, seq_nx, seq_ret, seq_brk, seq_cont, if_t, if_f, own_some, own_val, own_non, sv_some, sv_none, bind_name, start0, Option.bind_some, Option.bind_none, Option.map_some, Option.map_none, List.map_cons, List.map_nil, List.length_cons, List.length_nil, List.replicate, List.cons_append, List.nil_append, List.getElem?_cons_zero, List.getElem?_cons_succ, List.set_cons_zero, List.set_cons_succ, Nat.reduceAdd, Nat.reduceSub, if_true, if_false, Bool.false_eq_true, reduceIte, decide_true, decide_false, Bool.not_true, Bool.not_false, tup_d, lst_d, sz0, sz1, sz2, sz3, sz4, sz5, bnd2, bnd2l, bnd3, set2, set3, abs_i, max2_i, lt_i, gt_i, le_i, ge_i, for_nil, sat_some, lo_nx, lo_cont, lo_brk, lo_ret, f6, m17, add_lst, sz17]
  exact h2
theorem sp_end {c : Cfg} {m : Nat} {d : PyData} (hd : Gd 20 m d) (n deep : Int) : ∃ d', Sat (exs c [.val d, .val (.int n), .val (.int deep), .none, .none, .none] spRest) (fun o => o = .ret d') ∧ Gd 100 (m + 3) d' := by
  obtain ⟨d0, h0, hs⟩ := sp_odds (c := c) (d := d) (n := n) (deep := deep)
  have g0 : Gd 100 (m + 3) d0 := (odds_gd d0 h0).mono (Nat.le_refl _) (by omega)
  by_cases ht : ∃ z, d = .tuple z
  case neg =>
    have h := not_tup (d := d) fun z e => ht ⟨z, e⟩
    exact ⟨d0, ife_f (by simp only [cmpl, exs, ex, ev, evs, evPart, evIt, sealE, sealIt, rd_val, rd_own, rd_succ, Lr.add_int, Lr.sub_int, bin_add, bin_sub, bin_mul, bin_fdiv, bin_mod, cmp_eq, cmp_ne, cmp_lt, cmp_le, cmp_gt, cmp_ge, cmp_in, cmp_notin, cmp_isN, cmp_isnotN, Lr.eq_int, Lr.ne_int, Lr.len_lst, Lr.len_tup, tuple_lst, tuple_tup, list_lst, list_tup, int_bl, bi_len, bi_tuple, bi_list, bi_int, bi_join, bi_any, bi_all, bi_index, bi_sorted, bi_min1, bi_max1, bi_max2, bi_abs, bi_sum, bi_split, idx_lst, idx_tup, Lr.sl_lst, Lr.sl_tup, and_t', and_f, or_f', or_t, blo, chain_f, chain_t, not_b, neg_i, cond_t, cond_f, rng1, rng2, list_of, part_i, seq_nx, seq_ret, seq_brk, seq_cont, if_t, if_f, own_some, own_val, own_non, sv_some, sv_none, bind_name, start0, Option.bind_some, Option.bind_none, Option.map_some, Option.map_none, List.map_cons, List.map_nil, List.length_cons, List.length_nil, List.replicate, List.cons_append, List.nil_append, List.getElem?_cons_zero, List.getElem?_cons_succ, List.set_cons_zero, List.set_cons_succ, Nat.reduceAdd, Nat.reduceSub, if_true, if_false, Bool.false_eq_true, reduceIte, decide_true, decide_false, Bool.not_true, Bool.not_false, tup_d, lst_d, sz0, sz1, sz2, sz3, sz4, sz5, bnd2, bnd2l, bnd3, set2, set3, abs_i, max2_i, lt_i, gt_i, le_i, ge_i, for_nil, sat_some, lo_nx, lo_cont, lo_brk, lo_ret, h]) hs, g0⟩
  obtain ⟨ds, rfl⟩ := ht
  obtain ⟨m, rfl, hl, he⟩ := gd_tup hd
  by_cases q : 0 < ds.length
  case neg => exact ⟨d0, ife_f (by simp only [cmpl, exs, ex, ev, evs, evPart, evIt, sealE, sealIt, rd_val, rd_own, rd_succ, Lr.add_int, Lr.sub_int, bin_add, bin_sub, bin_mul, bin_fdiv, bin_mod, cmp_eq, cmp_ne, cmp_lt, cmp_le, cmp_gt, cmp_ge, cmp_in, cmp_notin, cmp_isN, cmp_isnotN, Lr.eq_int, Lr.ne_int, Lr.len_lst, Lr.len_tup, tuple_lst, tuple_tup, list_lst, list_tup, int_bl, bi_len, bi_tuple, bi_list, bi_int, bi_join, bi_any, bi_all, bi_index, bi_sorted, bi_min1, bi_max1, bi_max2, bi_abs, bi_sum, bi_split, idx_lst, idx_tup, Lr.sl_lst, Lr.sl_tup, and_t', and_f, or_f', or_t, blo, chain_f, chain_t, not_b, neg_i, cond_t, cond_f, rng1, rng2, list_of, part_i, seq_nx, seq_ret, seq_brk, seq_cont, if_t, if_f, own_some, own_val, own_non, sv_some, sv_none, bind_name, start0, Option.bind_some, Option.bind_none, Option.map_some, Option.map_none, List.map_cons, List.map_nil, List.length_cons, List.length_nil, List.replicate, List.cons_append, List.nil_append, List.getElem?_cons_zero, List.getElem?_cons_succ, List.set_cons_zero, List.set_cons_succ, Nat.reduceAdd, Nat.reduceSub, if_true, if_false, Bool.false_eq_true, reduceIte, decide_true, decide_false, Bool.not_true, Bool.not_false, tup_d, lst_d, sz0, sz1, sz2, sz3, sz4, sz5, bnd2, bnd2l, bnd3, set2, set3, abs_i, max2_i, lt_i, gt_i, le_i, ge_i, for_nil, sat_some, lo_nx, lo_cont, lo_brk, lo_ret, isi_t, decide_eq_false (show ¬ (0 : Int) < (ds.length : Nat) by omega)]) hs, g0⟩
  by_cases q2 : n / 6 % 2 = 0
  case neg => exact ⟨d0, ife_f (by simp only [cmpl, exs, ex, ev, evs, evPart, evIt, sealE, sealIt, rd_val, rd_own, rd_succ, Lr.add_int, Lr.sub_int, bin_add, bin_sub, bin_mul, bin_fdiv, bin_mod, cmp_eq, cmp_ne, cmp_lt, cmp_le, cmp_gt, cmp_ge, cmp_in, cmp_notin, cmp_isN, cmp_isnotN, Lr.eq_int, Lr.ne_int, Lr.len_lst, Lr.len_tup, tuple_lst, tuple_tup, list_lst, list_tup, int_bl, bi_len, bi_tuple, bi_list, bi_int, bi_join, bi_any, bi_all, bi_index, bi_sorted, bi_min1, bi_max1, bi_max2, bi_abs, bi_sum, bi_split, idx_lst, idx_tup, Lr.sl_lst, Lr.sl_tup, and_t', and_f, or_f', or_t, blo, chain_f, chain_t, not_b, neg_i, cond_t, cond_f, rng1, rng2, list_of, part_i, seq_nx, seq_ret, seq_brk, seq_cont, if_t, if_f, own_some, own_val, own_non, sv_some, sv_none, bind_name, start0, Option.bind_some, Option.bind_none, Option.map_some, Option.map_none, List.map_cons, List.map_nil, List.length_cons, List.length_nil, List.replicate, List.cons_append, List.nil_append, List.getElem?_cons_zero, List.getElem?_cons_succ, List.set_cons_zero, List.set_cons_succ, Nat.reduceAdd, Nat.reduceSub, if_true, if_false, Bool.false_eq_true, reduceIte, decide_true, decide_false, Bool.not_true, Bool.not_false, tup_d, lst_d, sz0, sz1, sz2, sz3, sz4, sz5, bnd2, bnd2l, bnd3, set2, set3, abs_i, max2_i, lt_i, gt_i, le_i, ge_i, for_nil, sat_some, lo_nx, lo_cont, lo_brk, lo_ret, isi_t, decide_eq_true (show (0 : Int) < (ds.length : Nat) by omega), f6, m2, decide_eq_false q2]) hs, g0⟩
  obtain ⟨d', h1, h2⟩ := at_mem (xs := [.list ds, .tuple (cutA ds none (some (-1))), .tuple (ds ++ cutA ds (some (-1)) none), .tuple (cutA ds (some 1) none), .tuple ds.reverse, .tuple (ds ++ (ds ++ (ds ++ [])))]) (i := n / 12 % 6) (Int.emod_nonneg _ (by decide)) (Int.emod_lt_of_pos _ (by decide))
  refine ⟨d', ife_t (by simp only [cmpl, exs, ex, ev, evs, evPart, evIt, sealE, sealIt, rd_val, rd_own, rd_succ, Lr.add_int, Lr.sub_int, bin_add, bin_sub, bin_mul, bin_fdiv, bin_mod, cmp_eq, cmp_ne, cmp_lt, cmp_le, cmp_gt, cmp_ge, cmp_in, cmp_notin, cmp_isN, cmp_isnotN, Lr.eq_int, Lr.ne_int, Lr.len_lst, Lr.len_tup, tuple_lst, tuple_tup, list_lst, list_tup, int_bl, bi_len, bi_tuple, bi_list, bi_int, bi_join, bi_any, bi_all, bi_index, bi_sorted, bi_min1, bi_max1, bi_max2, bi_abs, bi_sum, bi_split, idx_lst, idx_tup, Lr.sl_lst, Lr.sl_tup, and_t', and_f, or_f', or_t, blo, chain_f, chain_t, not_b, neg_i, cond_t, cond_f, rng1, rng2, list_of, part_i, seq_nx, seq_ret, seq_brk, seq_cont, if_t, if_f, own_some, own_val, own_non, sv_some, sv_none, bind_name, start0, Option.bind_some, Option.bind_none, Option.map_some, Option.map_none, List.map_cons, List.map_nil, List.length_cons, List.length_nil, List.replicate, List.cons_append, List.nil_append, List.getElem?_cons_zero, List.getElem?_cons_succ, List.set_cons_zero, List.set_cons_succ, Nat.reduceAdd, Nat.reduceSub, if_true, if_false, Bool.false_eq_true, reduceIte, decide_true, decide_false, Bool.not_true, Bool.not_false, tup_d, lst_d, sz0, sz1, sz2, sz3, sz4, sz5, bnd2, bnd2l, bnd3, set2, set3, abs_i, max2_i, lt_i, gt_i, le_i, ge_i, for_nil, sat_some, lo_nx, lo_cont, lo_brk, lo_ret, isi_t, decide_eq_true (show (0 : Int) < (ds.length : Nat) by omega), f6, m2, decide_eq_true q2]) (ret_sat ?_ rfl), ?_⟩
  · have hc : (cutA ds (some (-1)) none).length ≤ ds.length := cut_len
    simp only [cmpl, exs, ex, ev, evs, evPart, evIt, sealE, sealIt, rd_val, rd_own, rd_succ, Lr.add_int, Lr.sub_int, bin_add, bin_sub, bin_mul, bin_fdiv, bin_mod, cmp_eq, cmp_ne, cmp_lt, cmp_le, cmp_gt, cmp_ge, cmp_in, cmp_notin, cmp_isN, cmp_isnotN, Lr.eq_int, Lr.ne_int, Lr.len_lst, Lr.len_tup, tuple_lst, tuple_tup, list_lst, list_tup, int_bl, bi_len, bi_tuple, bi_list, bi_int, bi_join, bi_any, bi_all, bi_index, bi_sorted, bi_min1, bi_max1, bi_max2, bi_abs, bi_sum, bi_split, idx_lst, idx_tup, Lr.sl_lst, Lr.sl_tup, and_t', and_f, or_f', or_t, blo, chain_f, chain_t, not_b, neg_i, cond_t, cond_f, rng1, rng2, list_of, part_i, seq_nx, seq_ret, seq_brk, seq_cont, if_t, if_f, own_some, own_val, own_non, sv_some, sv_none, bind_name, start0, Option.bind_some, Option.bind_none, Option.map_some, Option.map_none, List.map_cons, List.map_nil, List.length_cons, List.length_nil, List.replicate, List.cons_append, List.nil_append, List.getElem?_cons_zero, List.getElem?_cons_succ, List.set_cons_zero, List.set_cons_succ, Nat.reduceAdd, Nat.reduceSub, if_true, if_false, Bool.false_eq_true, reduceIte, decide_true, decide_false, Bool.not_true, Bool.not_false, tup_d, lst_d, sz0, sz1, sz2, sz3, sz4, sz5, bnd2, bnd2l, bnd3, set2, set3, abs_i, max2_i, lt_i, gt_i, le_i, ge_i, for_nil, sat_some, lo_nx, lo_cont, lo_brk, lo_ret, rv_t, mul3 (show ds.length ≤ 1000 by omega), addT (show ds.length + (cutA ds (some (-1)) none).length ≤ 1000 by omega), sz6, f12, m6]
    exact h2
  · have he' : ∀ e ∈ ds, Gd 100 (m + 3) e := fun e h => (he e h).mono (by decide) (by omega)
    simp only [List.mem_cons, List.not_mem_nil, or_false] at h1
    have hc : ∀ lo hi, (cutA ds lo hi).length ≤ ds.length := fun lo hi => cut_len
    rcases h1 with rfl | rfl | rfl | rfl | rfl | rfl
    · exact gdL (m := m + 3) (by omega) he'
    · exact gdT (m := m + 3) (by have := hc none (some (-1)); omega) fun e h => he' e (cut_mem h)
    · refine gdT (m := m + 3) (by rw [List.length_append]; have := hc (some (-1)) none; omega) fun e h => ?_
      rcases List.mem_append.mp h with h | h
      · exact he' e h
      · exact he' e (cut_mem h)
    · exact gdT (m := m + 3) (by have := hc (some 1) none; omega) fun e h => he' e (cut_mem h)
    · exact gdT (m := m + 3) (by rw [List.length_reverse]; omega) fun e h => he' e (List.mem_reverse.mp h)
    · refine gdT (m := m + 3) (by simp only [List.length_append, List.length_nil]; omega) fun e h => ?_
      simp only [List.mem_append, List.not_mem_nil, or_false] at h
      rcases h with h | h | h <;> exact he' e h
theorem spoilt_ok (hdr : T "_law_drawn" = some d_law_drawn) (hT : T "_law_spoilt" = some d_law_spoilt) : ∀ (deep k m : Nat), deep + 2 ≤ k → ∀ (n : Int) {d : PyData}, Gd 20 m d → ∃ d', callAt T g fu k "_law_spoilt" [d, .int n, .int deep] = some d' ∧ Gd 100 (m + 3) d'
  | 0, k, m, hk, n, d, hd => by
    obtain ⟨j, rfl⟩ := lvl (show 1 ≤ k by omega)
    obtain ⟨d', h1, h2⟩ := sp_end (c := ⟨callAt T g fu j, fu, g⟩) hd n (0 : Nat)
    exact ⟨d', call_sat (df := d_law_spoilt) hT rfl (ife_f (by simp only [cmpl, exs, ex, ev, evs, evPart, evIt, sealE, sealIt, rd_val, rd_own, rd_succ, Lr.add_int, Lr.sub_int, bin_add, bin_sub, bin_mul, bin_fdiv, bin_mod, cmp_eq, cmp_ne, cmp_lt, cmp_le, cmp_gt, cmp_ge, cmp_in, cmp_notin, cmp_isN, cmp_isnotN, Lr.eq_int, Lr.ne_int, Lr.len_lst, Lr.len_tup, tuple_lst, tuple_tup, list_lst, list_tup, int_bl, bi_len, bi_tuple, bi_list, bi_int, bi_join, bi_any, bi_all, bi_index, bi_sorted, bi_min1, bi_max1, bi_max2, bi_abs, bi_sum, bi_split, idx_lst, idx_tup, Lr.sl_lst, Lr.sl_tup, and_t', and_f, or_f', or_t, blo, chain_f, chain_t, not_b, neg_i, cond_t, cond_f, rng1, rng2, list_of, part_i, seq_nx, seq_ret, seq_brk, seq_cont, if_t, if_f, own_some, own_val, own_non, sv_some, sv_none, bind_name, start0, Option.bind_some, Option.bind_none, Option.map_some, Option.map_none, List.map_cons, List.map_nil, List.length_cons, List.length_nil, List.replicate, List.cons_append, List.nil_append, List.getElem?_cons_zero, List.getElem?_cons_succ, List.set_cons_zero, List.set_cons_succ, Nat.reduceAdd, Nat.reduceSub, if_true, if_false, Bool.false_eq_true, reduceIte, decide_true, decide_false, Bool.not_true, Bool.not_false, tup_d, lst_d, sz0, sz1, sz2, sz3, sz4, sz5, bnd2, bnd2l, bnd3, set2, set3, abs_i, max2_i, lt_i, gt_i, le_i, ge_i, for_nil, sat_some, lo_nx, lo_cont, lo_brk, lo_ret, d_law_spoilt]; rfl) h1), h2⟩
  | deep + 1, k, m, hk, n, d, hd => by
    obtain ⟨j, rfl⟩ := lvl (show 2 ≤ k by omega)
    obtain ⟨d', h1, h2⟩ := sp_end (c := ⟨callAt T g fu (j + 1), fu, g⟩) hd n (deep + 1 : Nat)
    have hp : decide ((0 : Int) < ((deep + 1 : Nat) : Int)) = true := decide_eq_true (by omega)
    by_cases ht : ∃ z, d = .tuple z
    case neg =>
      have h := not_tup (d := d) fun z e => ht ⟨z, e⟩
      exact ⟨d', call_sat (df := d_law_spoilt) hT rfl (ife_f (by simp only [cmpl, exs, ex, ev, evs, evPart, evIt, sealE, sealIt, rd_val, rd_own, rd_succ, Lr.add_int, Lr.sub_int, bin_add, bin_sub, bin_mul, bin_fdiv, bin_mod, cmp_eq, cmp_ne, cmp_lt, cmp_le, cmp_gt, cmp_ge, cmp_in, cmp_notin, cmp_isN, cmp_isnotN, Lr.eq_int, Lr.ne_int, Lr.len_lst, Lr.len_tup, tuple_lst, tuple_tup, list_lst, list_tup, int_bl, bi_len, bi_tuple, bi_list, bi_int, bi_join, bi_any, bi_all, bi_index, bi_sorted, bi_min1, bi_max1, bi_max2, bi_abs, bi_sum, bi_split, idx_lst, idx_tup, Lr.sl_lst, Lr.sl_tup, and_t', and_f, or_f', or_t, blo, chain_f, chain_t, not_b, neg_i, cond_t, cond_f, rng1, rng2, list_of, part_i, seq_nx, seq_ret, seq_brk, seq_cont, if_t, if_f, own_some, own_val, own_non, sv_some, sv_none, bind_name, start0, Option.bind_some, Option.bind_none, Option.map_some, Option.map_none, List.map_cons, List.map_nil, List.length_cons, List.length_nil, List.replicate, List.cons_append, List.nil_append, List.getElem?_cons_zero, List.getElem?_cons_succ, List.set_cons_zero, List.set_cons_succ, Nat.reduceAdd, Nat.reduceSub, if_true, if_false, Bool.false_eq_true, reduceIte, decide_true, decide_false, Bool.not_true, Bool.not_false, tup_d, lst_d, sz0, sz1, sz2, sz3, sz4, sz5, bnd2, bnd2l, bnd3, set2, set3, abs_i, max2_i, lt_i, gt_i, le_i, ge_i, for_nil, sat_some, lo_nx, lo_cont, lo_brk, lo_ret, d_law_spoilt, hp, h]) h1), h2⟩
    obtain ⟨ds, rfl⟩ := ht
    by_cases q : 0 < ds.length
    case neg => exact ⟨d', call_sat (df := d_law_spoilt) hT rfl (ife_f (by simp only [cmpl, exs, ex, ev, evs, evPart, evIt, sealE, sealIt, rd_val, rd_own, rd_succ, Lr.add_int, Lr.sub_int, bin_add, bin_sub, bin_mul, bin_fdiv, bin_mod, cmp_eq, cmp_ne, cmp_lt, cmp_le, cmp_gt, cmp_ge, cmp_in, cmp_notin, cmp_isN, cmp_isnotN, Lr.eq_int, Lr.ne_int, Lr.len_lst, Lr.len_tup, tuple_lst, tuple_tup, list_lst, list_tup, int_bl, bi_len, bi_tuple, bi_list, bi_int, bi_join, bi_any, bi_all, bi_index, bi_sorted, bi_min1, bi_max1, bi_max2, bi_abs, bi_sum, bi_split, idx_lst, idx_tup, Lr.sl_lst, Lr.sl_tup, and_t', and_f, or_f', or_t, blo, chain_f, chain_t, not_b, neg_i, cond_t, cond_f, rng1, rng2, list_of, part_i, seq_nx, seq_ret, seq_brk, seq_cont, if_t, if_f, own_some, own_val, own_non, sv_some, sv_none, bind_name, start0, Option.bind_some, Option.bind_none, Option.map_some, Option.map_none, List.map_cons, List.map_nil, List.length_cons, List.length_nil, List.replicate, List.cons_append, List.nil_append, List.getElem?_cons_zero, List.getElem?_cons_succ, List.set_cons_zero, List.set_cons_succ, Nat.reduceAdd, Nat.reduceSub, if_true, if_false, Bool.false_eq_true, reduceIte, decide_true, decide_false, Bool.not_true, Bool.not_false, tup_d, lst_d, sz0, sz1, sz2, sz3, sz4, sz5, bnd2, bnd2l, bnd3, set2, set3, abs_i, max2_i, lt_i, gt_i, le_i, ge_i, for_nil, sat_some, lo_nx, lo_cont, lo_brk, lo_ret, d_law_spoilt, hp, isi_t, decide_eq_false (show ¬ (0 : Int) < (ds.length : Nat) by omega)]) h1), h2⟩
    by_cases q2 : 0 < n % 6
    case neg => exact ⟨d', call_sat (df := d_law_spoilt) hT rfl (ife_f (by simp only [cmpl, exs, ex, ev, evs, evPart, evIt, sealE, sealIt, rd_val, rd_own, rd_succ, Lr.add_int, Lr.sub_int, bin_add, bin_sub, bin_mul, bin_fdiv, bin_mod, cmp_eq, cmp_ne, cmp_lt, cmp_le, cmp_gt, cmp_ge, cmp_in, cmp_notin, cmp_isN, cmp_isnotN, Lr.eq_int, Lr.ne_int, Lr.len_lst, Lr.len_tup, tuple_lst, tuple_tup, list_lst, list_tup, int_bl, bi_len, bi_tuple, bi_list, bi_int, bi_join, bi_any, bi_all, bi_index, bi_sorted, bi_min1, bi_max1, bi_max2, bi_abs, bi_sum, bi_split, idx_lst, idx_tup, Lr.sl_lst, Lr.sl_tup, and_t', and_f, or_f', or_t, blo, chain_f, chain_t, not_b, neg_i, cond_t, cond_f, rng1, rng2, list_of, part_i, seq_nx, seq_ret, seq_brk, seq_cont, if_t, if_f, own_some, own_val, own_non, sv_some, sv_none, bind_name, start0, Option.bind_some, Option.bind_none, Option.map_some, Option.map_none, List.map_cons, List.map_nil, List.length_cons, List.length_nil, List.replicate, List.cons_append, List.nil_append, List.getElem?_cons_zero, List.getElem?_cons_succ, List.set_cons_zero, List.set_cons_succ, Nat.reduceAdd, Nat.reduceSub, if_true, if_false, Bool.false_eq_true, reduceIte, decide_true, decide_false, Bool.not_true, Bool.not_false, tup_d, lst_d, sz0, sz1, sz2, sz3, sz4, sz5, bnd2, bnd2l, bnd3, set2, set3, abs_i, max2_i, lt_i, gt_i, le_i, ge_i, for_nil, sat_some, lo_nx, lo_cont, lo_brk, lo_ret, d_law_spoilt, hp, isi_t, decide_eq_true (show (0 : Int) < (ds.length : Nat) by omega), m6, decide_eq_false q2]) h1), h2⟩
    obtain ⟨m, rfl, hl, he⟩ := gd_tup hd
    clear h1 h2 d'
    obtain ⟨x, hx, hat⟩ := at_mem (xs := ds) (i := n / 6 % (ds.length : Nat)) (Int.emod_nonneg _ (by omega)) (Int.emod_lt_of_pos _ (by omega))
    obtain ⟨y, hy, hgy⟩ := spoilt_ok hdr hT deep (j + 1) m (by omega) (drawnV n (deep + 1 : Nat) / 4) (he x hx)
    have hd1 : ((deep + 1 : Nat) : Int) - 1 = (deep : Nat) := by omega
    have hc1 : (cutA ds none (some (n / 6 % (ds.length : Nat)))).length ≤ ds.length := cut_len
    have hc2 : (cutA ds (some (n / 6 % (ds.length : Nat) + 1)) none).length ≤ ds.length := cut_len
    refine ⟨.tuple (cutA ds none (some (n / 6 % (ds.length : Nat))) ++ [y] ++ cutA ds (some (n / 6 % (ds.length : Nat) + 1)) none), call_sat (df := d_law_spoilt) hT rfl (ife_t (by simp only [cmpl, exs, ex, ev, evs, evPart, evIt, sealE, sealIt, rd_val, rd_own, rd_succ, Lr.add_int, Lr.sub_int, bin_add, bin_sub, bin_mul, bin_fdiv, bin_mod, cmp_eq, cmp_ne, cmp_lt, cmp_le, cmp_gt, cmp_ge, cmp_in, cmp_notin, cmp_isN, cmp_isnotN, Lr.eq_int, Lr.ne_int, Lr.len_lst, Lr.len_tup, tuple_lst, tuple_tup, list_lst, list_tup, int_bl, bi_len, bi_tuple, bi_list, bi_int, bi_join, bi_any, bi_all, bi_index, bi_sorted, bi_min1, bi_max1, bi_max2, bi_abs, bi_sum, bi_split, idx_lst, idx_tup, Lr.sl_lst, Lr.sl_tup, and_t', and_f, or_f', or_t, blo, chain_f, chain_t, not_b, neg_i, cond_t, cond_f, rng1, rng2, list_of, part_i, seq_nx, seq_ret, seq_brk, seq_cont, if_t, if_f, own_some, own_val, own_non, sv_some, sv_none, bind_name, start0, Option.bind_some, Option.bind_none, Option.map_some, Option.map_none, List.map_cons, List.map_nil, List.length_cons, List.length_nil, List.replicate, List.cons_append, List.nil_append, List.getElem?_cons_zero, List.getElem?_cons_succ, List.set_cons_zero, List.set_cons_succ, Nat.reduceAdd, Nat.reduceSub, if_true, if_false, Bool.false_eq_true, reduceIte, decide_true, decide_false, Bool.not_true, Bool.not_false, tup_d, lst_d, sz0, sz1, sz2, sz3, sz4, sz5, bnd2, bnd2l, bnd3, set2, set3, abs_i, max2_i, lt_i, gt_i, le_i, ge_i, for_nil, sat_some, lo_nx, lo_cont, lo_brk, lo_ret, d_law_spoilt, hp, isi_t, decide_eq_true (show (0 : Int) < (ds.length : Nat) by omega), m6, decide_eq_true q2]) ?_), ?_⟩
    · refine stp_sat (by simp only [cmpl, exs, ex, ev, evs, evPart, evIt, sealE, sealIt, rd_val, rd_own, rd_succ, Lr.add_int, Lr.sub_int, bin_add, bin_sub, bin_mul, bin_fdiv, bin_mod, cmp_eq, cmp_ne, cmp_lt, cmp_le, cmp_gt, cmp_ge, cmp_in, cmp_notin, cmp_isN, cmp_isnotN, Lr.eq_int, Lr.ne_int, Lr.len_lst, Lr.len_tup, tuple_lst, tuple_tup, list_lst, list_tup, int_bl, bi_len, bi_tuple, bi_list, bi_int, bi_join, bi_any, bi_all, bi_index, bi_sorted, bi_min1, bi_max1, bi_max2, bi_abs, bi_sum, bi_split, idx_lst, idx_tup, Lr.sl_lst, Lr.sl_tup, and_t', and_f, or_f', or_t, blo, chain_f, chain_t, not_b, neg_i, cond_t, cond_f, rng1, rng2, list_of, part_i, seq_nx, seq_ret, seq_brk, seq_cont, if_t, if_f, own_some, own_val, own_non, sv_some, sv_none, bind_name, start0, Option.bind_some, Option.bind_none, Option.map_some, Option.map_none, List.map_cons, List.map_nil, List.length_cons, List.length_nil, List.replicate, List.cons_append, List.nil_append, List.getElem?_cons_zero, List.getElem?_cons_succ, List.set_cons_zero, List.set_cons_succ, Nat.reduceAdd, Nat.reduceSub, if_true, if_false, Bool.false_eq_true, reduceIte, decide_true, decide_false, Bool.not_true, Bool.not_false, tup_d, lst_d, sz0, sz1, sz2, sz3, sz4, sz5, bnd2, bnd2l, bnd3, set2, set3, abs_i, max2_i, lt_i, gt_i, le_i, ge_i, for_nil, sat_some, lo_nx, lo_cont, lo_brk, lo_ret, d_law_spoilt, f6, mdP (n / 6) (show (0 : Int) < (ds.length : Nat) by omega)]; rfl) ?_
      refine stp_sat (by simp only [cmpl, exs, ex, ev, evs, evPart, evIt, sealE, sealIt, rd_val, rd_own, rd_succ, Lr.add_int, Lr.sub_int, bin_add, bin_sub, bin_mul, bin_fdiv, bin_mod, cmp_eq, cmp_ne, cmp_lt, cmp_le, cmp_gt, cmp_ge, cmp_in, cmp_notin, cmp_isN, cmp_isnotN, Lr.eq_int, Lr.ne_int, Lr.len_lst, Lr.len_tup, tuple_lst, tuple_tup, list_lst, list_tup, int_bl, bi_len, bi_tuple, bi_list, bi_int, bi_join, bi_any, bi_all, bi_index, bi_sorted, bi_min1, bi_max1, bi_max2, bi_abs, bi_sum, bi_split, idx_lst, idx_tup, Lr.sl_lst, Lr.sl_tup, and_t', and_f, or_f', or_t, blo, chain_f, chain_t, not_b, neg_i, cond_t, cond_f, rng1, rng2, list_of, part_i, seq_nx, seq_ret, seq_brk, seq_cont, if_t, if_f, own_some, own_val, own_non, sv_some, sv_none, bind_name, start0, Option.bind_some, Option.bind_none, Option.map_some, Option.map_none, List.map_cons, List.map_nil, List.length_cons, List.length_nil, List.replicate, List.cons_append, List.nil_append, List.getElem?_cons_zero, List.getElem?_cons_succ, List.set_cons_zero, List.set_cons_succ, Nat.reduceAdd, Nat.reduceSub, if_true, if_false, Bool.false_eq_true, reduceIte, decide_true, decide_false, Bool.not_true, Bool.not_false, tup_d, lst_d, sz0, sz1, sz2, sz3, sz4, sz5, bnd2, bnd2l, bnd3, set2, set3, abs_i, max2_i, lt_i, gt_i, le_i, ge_i, for_nil, sat_some, lo_nx, lo_cont, lo_brk, lo_ret, d_law_spoilt, hat, drawn_ok hdr, f4, hd1, hy]; rfl) (ret_sat ?_ rfl)
      simp only [cmpl, exs, ex, ev, evs, evPart, evIt, sealE, sealIt, rd_val, rd_own, rd_succ, Lr.add_int, Lr.sub_int, bin_add, bin_sub, bin_mul, bin_fdiv, bin_mod, cmp_eq, cmp_ne, cmp_lt, cmp_le, cmp_gt, cmp_ge, cmp_in, cmp_notin, cmp_isN, cmp_isnotN, Lr.eq_int, Lr.ne_int, Lr.len_lst, Lr.len_tup, tuple_lst, tuple_tup, list_lst, list_tup, int_bl, bi_len, bi_tuple, bi_list, bi_int, bi_join, bi_any, bi_all, bi_index, bi_sorted, bi_min1, bi_max1, bi_max2, bi_abs, bi_sum, bi_split, idx_lst, idx_tup, Lr.sl_lst, Lr.sl_tup, and_t', and_f, or_f', or_t, blo, chain_f, chain_t, not_b, neg_i, cond_t, cond_f, rng1, rng2, list_of, part_i, seq_nx, seq_ret, seq_brk, seq_cont, if_t, if_f, own_some, own_val, own_non, sv_some, sv_none, bind_name, start0, Option.bind_some, Option.bind_none, Option.map_some, Option.map_none, List.map_cons, List.map_nil, List.length_cons, List.length_nil, List.replicate, List.cons_append, List.nil_append, List.getElem?_cons_zero, List.getElem?_cons_succ, List.set_cons_zero, List.set_cons_succ, Nat.reduceAdd, Nat.reduceSub, if_true, if_false, Bool.false_eq_true, reduceIte, decide_true, decide_false, Bool.not_true, Bool.not_false, tup_d, lst_d, sz0, sz1, sz2, sz3, sz4, sz5, bnd2, bnd2l, bnd3, set2, set3, abs_i, max2_i, lt_i, gt_i, le_i, ge_i, for_nil, sat_some, lo_nx, lo_cont, lo_brk, lo_ret, d_law_spoilt, addT (show (cutA ds none (some (n / 6 % (ds.length : Nat)))).length + [y].length ≤ 1000 by simp; omega), addT (show (cutA ds none (some (n / 6 % (ds.length : Nat))) ++ [y]).length + (cutA ds (some (n / 6 % (ds.length : Nat) + 1)) none).length ≤ 1000 by simp; omega)]
    · refine gdT (m := m + 3) (by simp only [List.length_append, List.length_cons, List.length_nil]; omega) fun e h => ?_
      simp only [List.mem_append, List.mem_cons, List.not_mem_nil, or_false] at h
      rcases h with (h | rfl) | h
      · exact (he e (cut_mem h)).mono (by decide) (by omega)
      · exact hgy
      · exact (he e (cut_mem h)).mono (by decide) (by omega)
end
end Lr
namespace Lr
open PySem PySem.Spec PyProof.Rows L2
/-! ### sizes -/
mutual
def Stp.deep : Stp → Nat
  | .tell _ _ _ => 0
  | .choice bs => brsDeep bs + 1
  | .round s => stsDeep s + 1
  | .both s t => max (stsDeep s) (stsDeep t) + 1
def stsDeep : List Stp → Nat
  | [] => 0
  | s :: r => max s.deep (stsDeep r)
def brsDeep : List (List Stp) → Nat
  | [] => 0
  | s :: r => max (stsDeep s) (brsDeep r)
end
mutual
def Stp.size : Stp → Nat
  | .tell _ _ _ => 1
  | .choice bs => brsSize bs + 2
  | .round s => stsSize s + 3
  | .both s t => stsSize s + stsSize t + 4
def stsSize : List Stp → Nat
  | [] => 0
  | s :: r => s.size + stsSize r
def brsSize : List (List Stp) → Nat
  | [] => 0
  | s :: r => stsSize s + brsSize r + 1
end
theorem deep_mem : ∀ {s : List Stp} {x : Stp}, x ∈ s → x.deep ≤ stsDeep s
  | a :: r, x, h => by
    unfold stsDeep
    rcases List.mem_cons.mp h with rfl | h
    · exact Nat.le_max_left _ _
    · exact Nat.le_trans (deep_mem h) (Nat.le_max_right _ _)
theorem brsDeep_mem : ∀ {s : List (List Stp)} {x : List Stp}, x ∈ s → stsDeep x ≤ brsDeep s
  | a :: r, x, h => by
    unfold brsDeep
    rcases List.mem_cons.mp h with rfl | h
    · exact Nat.le_max_left _ _
    · exact Nat.le_trans (brsDeep_mem h) (Nat.le_max_right _ _)
theorem deep_part {x : Stp} {p : List Stp} (h : p ∈ x.parts) : stsDeep p < x.deep := by
  cases x with
  | tell a b w => cases h
  | choice bs => unfold Stp.deep; exact Nat.lt_succ_of_le (brsDeep_mem h)
  | round s => simp [Stp.parts] at h; subst h; unfold Stp.deep; omega
  | both s t =>
    simp [Stp.parts] at h
    unfold Stp.deep
    rcases h with rfl | rfl <;> omega
theorem stsSize_app : ∀ s t : List Stp, stsSize (s ++ t) = stsSize s + stsSize t
  | [], t => by simp [stsSize]
  | a :: r, t => by rw [List.cons_append, stsSize, stsSize, stsSize_app r t]; omega
theorem brsSize_app : ∀ s t : List (List Stp), brsSize (s ++ t) = brsSize s + brsSize t
  | [], t => by simp [brsSize]
  | a :: r, t => by rw [List.cons_append, brsSize, brsSize, brsSize_app r t]; omega
theorem size_pos (x : Stp) : 1 ≤ x.size := by cases x <;> (unfold Stp.size; omega)
theorem len_size : ∀ s : List Stp, s.length ≤ stsSize s
  | [] => Nat.le_refl _
  | a :: r => by rw [stsSize, List.length_cons]; have := size_pos a; have := len_size r; omega
theorem blen_size : ∀ s : List (List Stp), s.length ≤ brsSize s
  | [] => Nat.le_refl _
  | a :: r => by rw [brsSize, List.length_cons]; have := blen_size r; omega
theorem size_mem {s : List Stp} {x : Stp} (h : x ∈ s) : x.size ≤ stsSize s := by
  obtain ⟨a, b, rfl⟩ := List.append_of_mem h
  rw [stsSize_app, stsSize]; omega
theorem brsSize_mem {s : List (List Stp)} {x : List Stp} (h : x ∈ s) : stsSize x < brsSize s := by
  obtain ⟨a, b, rfl⟩ := List.append_of_mem h
  rw [brsSize_app, brsSize]; omega
theorem parts_size {x : Stp} (h : x.isTell = false) : brsSize x.parts + 2 = x.size := by
  cases x with
  | tell a b w => cases h
  | choice bs => unfold Stp.size; rfl
  | round s => unfold Stp.size; simp [Stp.parts, brsSize]
  | both s t => unfold Stp.size; simp [Stp.parts, brsSize]; omega
theorem parts_size_le (x : Stp) : brsSize x.parts ≤ x.size := by
  cases h : x.isTell with
  | true => cases x with
    | tell a b w => simp [Stp.parts, brsSize]
    | _ => cases h
  | false => have := parts_size h; omega
mutual
theorem lets_size : ∀ x : Stp, x.lets.length ≤ x.size
  | .tell _ _ _ => by unfold Stp.lets Stp.size; simp
  | .choice bs => by unfold Stp.lets Stp.size; have := brsLets_size bs; omega
  | .round s => by unfold Stp.lets Stp.size; have := stsLets_size s; omega
  | .both s t => by unfold Stp.lets Stp.size; rw [List.length_append]; have := stsLets_size s; have := stsLets_size t; omega
theorem stsLets_size : ∀ s : List Stp, (stsLets s).length ≤ stsSize s
  | [] => by simp [stsLets]
  | x :: r => by rw [stsLets, stsSize, List.length_append]; have := lets_size x; have := stsLets_size r; omega
theorem brsLets_size : ∀ s : List (List Stp), (brsLets s).length ≤ brsSize s
  | [] => by simp [brsLets]
  | x :: r => by rw [brsLets, brsSize, List.length_append]; have := stsLets_size x; have := brsLets_size r; omega
end
mutual
theorem ok_deep {hs : List Str} : ∀ {n : Nat} {x : Stp}, x.ok hs n → x.deep ≤ n
  | _, .tell _ _ _, _ => by unfold Stp.deep; omega
  | 0, .choice bs, h => by unfold Stp.ok at h; exact h.elim
  | 0, .round s, h => by unfold Stp.ok at h; exact h.elim
  | 0, .both s t, h => by unfold Stp.ok at h; exact h.elim
  | n + 1, .choice bs, h => by unfold Stp.ok at h; unfold Stp.deep; have := brsOk_deep h.2.2; omega
  | n + 1, .round s, h => by unfold Stp.ok at h; unfold Stp.deep; have := stsOk_deep h.2; omega
  | n + 1, .both s t, h => by unfold Stp.ok at h; unfold Stp.deep; have := stsOk_deep h.2.1; have := stsOk_deep h.2.2.2; omega
theorem stsOk_deep {hs : List Str} : ∀ {n : Nat} {s : List Stp}, stsOk hs n s → stsDeep s ≤ n
  | _, [], _ => by unfold stsDeep; omega
  | n, x :: r, h => by unfold stsOk at h; unfold stsDeep; have := ok_deep h.1; have := stsOk_deep h.2; omega
theorem brsOk_deep {hs : List Str} : ∀ {n : Nat} {s : List (List Stp)}, brsOk hs n s → brsDeep s ≤ n
  | _, [], _ => by unfold brsDeep; omega
  | n, x :: r, h => by unfold brsOk at h; unfold brsDeep; have := stsOk_deep h.2.1; have := brsOk_deep h.2.2; omega
end
def szN : Nat → Nat
  | 0 => 4
  | n + 1 => 4 * (3 * szN n + 5)
theorem szN_pos : ∀ n, 4 ≤ szN n
  | 0 => Nat.le_refl _
  | n + 1 => by unfold szN; omega
theorem szN_mono : ∀ n, szN n ≤ szN (n + 1) := fun n => by show szN n ≤ 4 * (3 * szN n + 5); omega
theorem brsOk_size {hs : List Str} {n : Nat} (ih : ∀ s : List Stp, s.length ≤ 4 → stsOk hs n s → stsSize s ≤ szN n) : ∀ bs : List (List Stp), brsOk hs n bs → brsSize bs ≤ bs.length * (szN n + 1)
  | [], _ => by simp [brsSize]
  | s :: r, h => by
    unfold brsOk at h
    have h1 := ih s h.1 h.2.1
    have h2 := brsOk_size ih r h.2.2
    rw [brsSize, List.length_cons, Nat.add_mul]
    omega
theorem ok_size {hs : List Str} : ∀ {n : Nat}, (∀ m, m + 1 = n → ∀ s : List Stp, s.length ≤ 4 → stsOk hs m s → stsSize s ≤ szN m) → ∀ x : Stp, x.ok hs n → 4 * x.size ≤ szN n
  | n, ih, x, h => by
    cases x with
    | tell a b w => unfold Stp.size; have := szN_pos n; omega
    | choice bs =>
      cases n with
      | zero => unfold Stp.ok at h; exact h.elim
      | succ n =>
        unfold Stp.ok at h
        have h1 := brsOk_size (ih n rfl) bs h.2.2
        have h2 : bs.length * (szN n + 1) ≤ 3 * (szN n + 1) := Nat.mul_le_mul_right _ h.2.1
        unfold Stp.size
        show _ ≤ 4 * (3 * szN n + 5)
        omega
    | round s =>
      cases n with
      | zero => unfold Stp.ok at h; exact h.elim
      | succ n =>
        unfold Stp.ok at h
        have h1 := ih n rfl s h.1 h.2
        unfold Stp.size
        show _ ≤ 4 * (3 * szN n + 5)
        omega
    | both s t =>
      cases n with
      | zero => unfold Stp.ok at h; exact h.elim
      | succ n =>
        unfold Stp.ok at h
        have h1 := ih n rfl s h.1 h.2.1
        have h2 := ih n rfl t h.2.2.1 h.2.2.2
        unfold Stp.size
        show _ ≤ 4 * (3 * szN n + 5)
        omega
theorem sts_sz {b : Nat} : ∀ {s : List Stp}, (∀ x ∈ s, 4 * x.size ≤ b) → 4 * stsSize s ≤ s.length * b
  | [], _ => by simp [stsSize]
  | x :: r, h => by
    have h1 := h x List.mem_cons_self
    have h2 := sts_sz (s := r) fun y hy => h y (List.mem_cons_of_mem _ hy)
    rw [stsSize, List.length_cons, Nat.add_mul]
    omega
theorem stsOk_size {hs : List Str} : ∀ (n : Nat) (s : List Stp), s.length ≤ 4 → stsOk hs n s → stsSize s ≤ szN n := by
  intro n
  induction n with
  | zero =>
    intro s hl h
    have := sts_sz (s := s) fun x hx => ok_size (n := 0) (fun m hm => by omega) x (stsOk_all.mp h x hx)
    have h2 : s.length * szN 0 ≤ 4 * szN 0 := Nat.mul_le_mul_right _ hl
    omega
  | succ n ih =>
    intro s hl h
    have := sts_sz (s := s) fun x hx => ok_size (n := n + 1) (fun m hm s hl hs => by cases hm; exact ih s hl hs) x (stsOk_all.mp h x hx)
    have h2 : s.length * szN (n + 1) ≤ 4 * szN (n + 1) := Nat.mul_le_mul_right _ hl
    omega
theorem szN4 {n : Nat} (h : n ≤ 4) : szN n ≤ 200000 := by
  have : n = 0 ∨ n = 1 ∨ n = 2 ∨ n = 3 ∨ n = 4 := by omega
  rcases this with rfl | rfl | rfl | rfl | rfl <;> decide
/-! ### first words -/
theorem idx0 (x : Stp) : ∃ y, idxEv x.d (.int 0) = some (.str y) ∧ neEv (.str y) (.str "tell") = some (!x.isTell) ∧ eqEv (.str y) (.str "tell") = some x.isTell := by
  cases x with
  | tell a b w => exact ⟨_, rfl, n_tt, e_tt⟩
  | choice bs => exact ⟨_, rfl, n_ct, e_ct⟩
  | round s => exact ⟨_, rfl, n_rt, e_rt⟩
  | both s t => exact ⟨_, rfl, n_bt, e_bt⟩
section
variable {T : Tab} {g : Str → Option PyData} {fu : Nat}
theorem parts_ok' (hT : T "parts_of" = some d_parts_of) {k : Nat} (hk : 1 ≤ k) (s : Stp) : callAt T g fu k "parts_of" [s.d] = some (.tuple (s.parts.map fun t => PyData.tuple (stsD t))) := by
  obtain ⟨j, rfl⟩ := lvl hk
  rw [← brsD_map]
  exact parts_ok hT j s
theorem parts_seq {x : Stp} (h : x.size ≤ 1000000) : seqItems (.tuple (x.parts.map fun t => PyData.tuple (stsD t))) = some (x.parts.map fun t => PyData.tuple (stsD t)) := by
  rw [seqI_tup, sz_ok (by rw [List.length_map]; have := blen_size x.parts; have := parts_size_le x; omega)]
  rfl
theorem sts_seq {s : List Stp} (h : stsSize s ≤ 1000000) : seqItems (.tuple (stsD s)) = some (s.map Stp.d) := by
  rw [seqI_tup, sz_ok (by rw [stsD_len]; have := len_size s; omega), stsD_map]
  rfl
theorem lets_seq {α : Type} {f : α → PyData} {s : List α} (h : s.length ≤ 1000000) : seqItems (.list (s.map f)) = some (s.map f) := by
  rw [seqI_lst, sz_ok (by rw [List.length_map]; omega)]
  rfl
/-- letters_in -/
theorem letters_in_ok (hP : T "parts_of" = some d_parts_of) (hT : T "letters_in" = some d_letters_in) : ∀ (n k : Nat) (s : List Stp), stsDeep s ≤ n → n + 2 ≤ k → stsSize s ≤ 1000000 → callAt T g fu k "letters_in" [.tuple (stsD s)] = some (.list ((stsLets s).map Letter.d))
  | n, k, s, hd, hk, hz => by
    obtain ⟨k, rfl⟩ := lvl (show 1 ≤ k by omega)
    refine call_at hT rfl ?_
    simp only [d_letters_in, cmpl, exs, ex, ev, evs, evPart, evIt, sealE, sealIt, rd_val, rd_own, rd_succ, Lr.add_int, Lr.sub_int, bin_add, bin_sub, bin_mul, bin_fdiv, bin_mod, cmp_eq, cmp_ne, cmp_lt, cmp_le, cmp_gt, cmp_ge, cmp_in, cmp_notin, cmp_isN, cmp_isnotN, Lr.eq_int, Lr.ne_int, Lr.len_lst, Lr.len_tup, tuple_lst, tuple_tup, list_lst, list_tup, int_bl, bi_len, bi_tuple, bi_list, bi_int, bi_join, bi_any, bi_all, bi_index, bi_sorted, bi_min1, bi_max1, bi_max2, bi_abs, bi_sum, bi_split, idx_lst, idx_tup, Lr.sl_lst, Lr.sl_tup, and_t', and_f, or_f', or_t, blo, chain_f, chain_t, not_b, neg_i, cond_t, cond_f, rng1, rng2, list_of, part_i, seq_nx, seq_ret, seq_brk, seq_cont, if_t, if_f, own_some, own_val, own_non, sv_some, sv_none, bind_name, start0, Option.bind_some, Option.bind_none, Option.map_some, Option.map_none, List.map_cons, List.map_nil, List.length_cons, List.length_nil, List.replicate, List.cons_append, List.nil_append, List.getElem?_cons_zero, List.getElem?_cons_succ, List.set_cons_zero, List.set_cons_succ, Nat.reduceAdd, Nat.reduceSub, if_true, if_false, Bool.false_eq_true, reduceIte, decide_true, decide_false, Bool.not_true, Bool.not_false, tup_d, lst_d, sz0, sz1, sz2, sz3, sz4, sz5, bnd2, bnd2l, bnd3, set2, set3, abs_i, max2_i, lt_i, gt_i, le_i, ge_i, for_nil, sat_some, lo_nx, lo_cont, lo_brk, lo_ret, sts_seq hz]
    refine for_ret s (fun pre ρ => ∃ p x, ρ = [.val (.tuple (stsD s)), .own ((stsLets pre).map Letter.d), p, x]) ⟨_, _, rfl⟩ (fun pre x post ρ hx ⟨p, y, hρ⟩ => ?_) (fun ρ' ⟨p, x, hρ⟩ => ?_)
    · subst hρ
      have hxs : x ∈ s := by rw [hx]; simp
      have hsz : stsSize pre + x.size ≤ 1000000 := by rw [hx, stsSize_app, stsSize] at hz; omega
      have l1 := stsLets_size pre
      obtain ⟨y0, hy1, hy2, hy3⟩ := idx0 x
      have e2 : stsLets (pre ++ [x]) = stsLets pre ++ x.lets := by rw [stsLets_app]; simp [stsLets]
      have hps := parts_ok' (g := g) (fu := fu) hP (k := k) (by omega) x
      simp only [cmpl, exs, ex, ev, evs, evPart, evIt, sealE, sealIt, rd_val, rd_own, rd_succ, Lr.add_int, Lr.sub_int, bin_add, bin_sub, bin_mul, bin_fdiv, bin_mod, cmp_eq, cmp_ne, cmp_lt, cmp_le, cmp_gt, cmp_ge, cmp_in, cmp_notin, cmp_isN, cmp_isnotN, Lr.eq_int, Lr.ne_int, Lr.len_lst, Lr.len_tup, tuple_lst, tuple_tup, list_lst, list_tup, int_bl, bi_len, bi_tuple, bi_list, bi_int, bi_join, bi_any, bi_all, bi_index, bi_sorted, bi_min1, bi_max1, bi_max2, bi_abs, bi_sum, bi_split, idx_lst, idx_tup, Lr.sl_lst, Lr.sl_tup, and_t', and_f, or_f', or_t, blo, chain_f, chain_t, not_b, neg_i, cond_t, cond_f, rng1, rng2, list_of, part_i, seq_nx, seq_ret, seq_brk, seq_cont, if_t, if_f, own_some, own_val, own_non, sv_some, sv_none, bind_name, start0, Option.bind_some, Option.bind_none, Option.map_some, Option.map_none, List.map_cons, List.map_nil, List.length_cons, List.length_nil, List.replicate, List.cons_append, List.nil_append, List.getElem?_cons_zero, List.getElem?_cons_succ, List.set_cons_zero, List.set_cons_succ, Nat.reduceAdd, Nat.reduceSub, if_true, if_false, Bool.false_eq_true, reduceIte, decide_true, decide_false, Bool.not_true, Bool.not_false, tup_d, lst_d, sz0, sz1, sz2, sz3, sz4, sz5, bnd2, bnd2l, bnd3, set2, set3, abs_i, max2_i, lt_i, gt_i, le_i, ge_i, for_nil, sat_some, lo_nx, lo_cont, lo_brk, lo_ret, hy1, hy3, e2]
      cases hxt : x.isTell with
      | true =>
        cases x with
        | tell a b w =>
          have hp0 : (Stp.tell a b w).parts = [] := rfl
          rw [hp0] at hps
          simp only [Stp.d] at hps ⊢
          simp only [cmpl, exs, ex, ev, evs, evPart, evIt, sealE, sealIt, rd_val, rd_own, rd_succ, Lr.add_int, Lr.sub_int, bin_add, bin_sub, bin_mul, bin_fdiv, bin_mod, cmp_eq, cmp_ne, cmp_lt, cmp_le, cmp_gt, cmp_ge, cmp_in, cmp_notin, cmp_isN, cmp_isnotN, Lr.eq_int, Lr.ne_int, Lr.len_lst, Lr.len_tup, tuple_lst, tuple_tup, list_lst, list_tup, int_bl, bi_len, bi_tuple, bi_list, bi_int, bi_join, bi_any, bi_all, bi_index, bi_sorted, bi_min1, bi_max1, bi_max2, bi_abs, bi_sum, bi_split, idx_lst, idx_tup, Lr.sl_lst, Lr.sl_tup, and_t', and_f, or_f', or_t, blo, chain_f, chain_t, not_b, neg_i, cond_t, cond_f, rng1, rng2, list_of, part_i, seq_nx, seq_ret, seq_brk, seq_cont, if_t, if_f, own_some, own_val, own_non, sv_some, sv_none, bind_name, start0, Option.bind_some, Option.bind_none, Option.map_some, Option.map_none, List.map_cons, List.map_nil, List.length_cons, List.length_nil, List.replicate, List.cons_append, List.nil_append, List.getElem?_cons_zero, List.getElem?_cons_succ, List.set_cons_zero, List.set_cons_succ, Nat.reduceAdd, Nat.reduceSub, if_true, if_false, Bool.false_eq_true, reduceIte, decide_true, decide_false, Bool.not_true, Bool.not_false, tup_d, lst_d, sz0, sz1, sz2, sz3, sz4, sz5, bnd2, bnd2l, bnd3, set2, set3, abs_i, max2_i, lt_i, gt_i, le_i, ge_i, for_nil, sat_some, lo_nx, lo_cont, lo_brk, lo_ret, cut1, sz_ok (show ((stsLets pre).map Letter.d).length + 1 ≤ 16777216 by rw [List.length_map]; omega), hps, seqI_tup]
          exact ⟨p, _, by simp only [Stp.lets, List.map_append, Letter.d]; rfl⟩
        | _ => cases hxt
      | false =>
        simp only [cmpl, exs, ex, ev, evs, evPart, evIt, sealE, sealIt, rd_val, rd_own, rd_succ, Lr.add_int, Lr.sub_int, bin_add, bin_sub, bin_mul, bin_fdiv, bin_mod, cmp_eq, cmp_ne, cmp_lt, cmp_le, cmp_gt, cmp_ge, cmp_in, cmp_notin, cmp_isN, cmp_isnotN, Lr.eq_int, Lr.ne_int, Lr.len_lst, Lr.len_tup, tuple_lst, tuple_tup, list_lst, list_tup, int_bl, bi_len, bi_tuple, bi_list, bi_int, bi_join, bi_any, bi_all, bi_index, bi_sorted, bi_min1, bi_max1, bi_max2, bi_abs, bi_sum, bi_split, idx_lst, idx_tup, Lr.sl_lst, Lr.sl_tup, and_t', and_f, or_f', or_t, blo, chain_f, chain_t, not_b, neg_i, cond_t, cond_f, rng1, rng2, list_of, part_i, seq_nx, seq_ret, seq_brk, seq_cont, if_t, if_f, own_some, own_val, own_non, sv_some, sv_none, bind_name, start0, Option.bind_some, Option.bind_none, Option.map_some, Option.map_none, List.map_cons, List.map_nil, List.length_cons, List.length_nil, List.replicate, List.cons_append, List.nil_append, List.getElem?_cons_zero, List.getElem?_cons_succ, List.set_cons_zero, List.set_cons_succ, Nat.reduceAdd, Nat.reduceSub, if_true, if_false, Bool.false_eq_true, reduceIte, decide_true, decide_false, Bool.not_true, Bool.not_false, tup_d, lst_d, sz0, sz1, sz2, sz3, sz4, sz5, bnd2, bnd2l, bnd3, set2, set3, abs_i, max2_i, lt_i, gt_i, le_i, ge_i, for_nil, sat_some, lo_nx, lo_cont, lo_brk, lo_ret, hps, parts_seq (show x.size ≤ 1000000 by omega)]
        refine for_go x.parts (fun qre ρ => ∃ p', ρ = [.val (.tuple (stsD s)), .own ((stsLets pre ++ brsLets qre).map Letter.d), p', .val x.d]) ⟨p, by simp [brsLets]⟩ (fun qre t qost ρ ht ⟨p', hρ⟩ => ?_) (fun ρ' ⟨p', hρ⟩ => ?_)
        · subst hρ
          have htm : t ∈ x.parts := by rw [ht]; simp
          have hdx := deep_mem hxs
          have hdt := deep_part htm
          have hbs := parts_size hxt
          have hts := brsSize_mem htm
          have ih := letters_in_ok hP hT (n - 1) k t (by omega) (by omega) (by omega)
          have hq : brsSize qre + stsSize t ≤ x.size := by rw [← hbs, ht, brsSize_app, brsSize]; omega
          have lq := brsLets_size qre
          have lt := stsLets_size t
          simp only [cmpl, exs, ex, ev, evs, evPart, evIt, sealE, sealIt, rd_val, rd_own, rd_succ, Lr.add_int, Lr.sub_int, bin_add, bin_sub, bin_mul, bin_fdiv, bin_mod, cmp_eq, cmp_ne, cmp_lt, cmp_le, cmp_gt, cmp_ge, cmp_in, cmp_notin, cmp_isN, cmp_isnotN, Lr.eq_int, Lr.ne_int, Lr.len_lst, Lr.len_tup, tuple_lst, tuple_tup, list_lst, list_tup, int_bl, bi_len, bi_tuple, bi_list, bi_int, bi_join, bi_any, bi_all, bi_index, bi_sorted, bi_min1, bi_max1, bi_max2, bi_abs, bi_sum, bi_split, idx_lst, idx_tup, Lr.sl_lst, Lr.sl_tup, and_t', and_f, or_f', or_t, blo, chain_f, chain_t, not_b, neg_i, cond_t, cond_f, rng1, rng2, list_of, part_i, seq_nx, seq_ret, seq_brk, seq_cont, if_t, if_f, own_some, own_val, own_non, sv_some, sv_none, bind_name, start0, Option.bind_some, Option.bind_none, Option.map_some, Option.map_none, List.map_cons, List.map_nil, List.length_cons, List.length_nil, List.replicate, List.cons_append, List.nil_append, List.getElem?_cons_zero, List.getElem?_cons_succ, List.set_cons_zero, List.set_cons_succ, Nat.reduceAdd, Nat.reduceSub, if_true, if_false, Bool.false_eq_true, reduceIte, decide_true, decide_false, Bool.not_true, Bool.not_false, tup_d, lst_d, sz0, sz1, sz2, sz3, sz4, sz5, bnd2, bnd2l, bnd3, set2, set3, abs_i, max2_i, lt_i, gt_i, le_i, ge_i, for_nil, sat_some, lo_nx, lo_cont, lo_brk, lo_ret, ih, sz_ok (show ((stsLets pre ++ brsLets qre).map Letter.d).length + ((stsLets t).map Letter.d).length ≤ 16777216 by simp only [List.length_map, List.length_append]; omega)]
          exact ⟨.val (.tuple (stsD t)), by rw [show brsLets (qre ++ [t]) = brsLets qre ++ stsLets t by rw [brsLets_app]; simp [brsLets]]; simp only [List.map_append, List.append_assoc]⟩
        · subst hρ
          simp only [cmpl, exs, ex, ev, evs, evPart, evIt, sealE, sealIt, rd_val, rd_own, rd_succ, Lr.add_int, Lr.sub_int, bin_add, bin_sub, bin_mul, bin_fdiv, bin_mod, cmp_eq, cmp_ne, cmp_lt, cmp_le, cmp_gt, cmp_ge, cmp_in, cmp_notin, cmp_isN, cmp_isnotN, Lr.eq_int, Lr.ne_int, Lr.len_lst, Lr.len_tup, tuple_lst, tuple_tup, list_lst, list_tup, int_bl, bi_len, bi_tuple, bi_list, bi_int, bi_join, bi_any, bi_all, bi_index, bi_sorted, bi_min1, bi_max1, bi_max2, bi_abs, bi_sum, bi_split, idx_lst, idx_tup, Lr.sl_lst, Lr.sl_tup, and_t', and_f, or_f', or_t, blo, chain_f, chain_t, not_b, neg_i, cond_t, cond_f, rng1, rng2, list_of, part_i, seq_nx, seq_ret, seq_brk, seq_cont, if_t, if_f, own_some, own_val, own_non, sv_some, sv_none, bind_name, start0, Option.bind_some, Option.bind_none, Option.map_some, Option.map_none, List.map_cons, List.map_nil, List.length_cons, List.length_nil, List.replicate, List.cons_append, List.nil_append, List.getElem?_cons_zero, List.getElem?_cons_succ, List.set_cons_zero, List.set_cons_succ, Nat.reduceAdd, Nat.reduceSub, if_true, if_false, Bool.false_eq_true, reduceIte, decide_true, decide_false, Bool.not_true, Bool.not_false, tup_d, lst_d, sz0, sz1, sz2, sz3, sz4, sz5, bnd2, bnd2l, bnd3, set2, set3, abs_i, max2_i, lt_i, gt_i, le_i, ge_i, for_nil, sat_some, lo_nx, lo_cont, lo_brk, lo_ret]
          exact ⟨p', .val x.d, by rw [lets_parts hxt]⟩
    · subst hρ
      simp only [cmpl, exs, ex, ev, evs, evPart, evIt, sealE, sealIt, rd_val, rd_own, rd_succ, Lr.add_int, Lr.sub_int, bin_add, bin_sub, bin_mul, bin_fdiv, bin_mod, cmp_eq, cmp_ne, cmp_lt, cmp_le, cmp_gt, cmp_ge, cmp_in, cmp_notin, cmp_isN, cmp_isnotN, Lr.eq_int, Lr.ne_int, Lr.len_lst, Lr.len_tup, tuple_lst, tuple_tup, list_lst, list_tup, int_bl, bi_len, bi_tuple, bi_list, bi_int, bi_join, bi_any, bi_all, bi_index, bi_sorted, bi_min1, bi_max1, bi_max2, bi_abs, bi_sum, bi_split, idx_lst, idx_tup, Lr.sl_lst, Lr.sl_tup, and_t', and_f, or_f', or_t, blo, chain_f, chain_t, not_b, neg_i, cond_t, cond_f, rng1, rng2, list_of, part_i, seq_nx, seq_ret, seq_brk, seq_cont, if_t, if_f, own_some, own_val, own_non, sv_some, sv_none, bind_name, start0, Option.bind_some, Option.bind_none, Option.map_some, Option.map_none, List.map_cons, List.map_nil, List.length_cons, List.length_nil, List.replicate, List.cons_append, List.nil_append, List.getElem?_cons_zero, List.getElem?_cons_succ, List.set_cons_zero, List.set_cons_succ, Nat.reduceAdd, Nat.reduceSub, if_true, if_false, Bool.false_eq_true, reduceIte, decide_true, decide_false, Bool.not_true, Bool.not_false, tup_d, lst_d, sz0, sz1, sz2, sz3, sz4, sz5, bnd2, bnd2l, bnd3, set2, set3, abs_i, max2_i, lt_i, gt_i, le_i, ge_i, for_nil, sat_some, lo_nx, lo_cont, lo_brk, lo_ret]
end
end Lr
namespace Lr
open PySem PySem.Spec PyProof.Rows L2
/-! ### lanes and marks -/
inductive Mark where
  | letter (r a b : Int) (w : Str)
  | head (r : Int) (kind : Str) (lo hi : Int)
  | line (r : Int)
  | foot (r : Int)
def Mark.d : Mark → PyData
  | .letter r a b w => .tuple [.str "letter", .int r, .int a, .int b, .str w]
  | .head r k lo hi => .tuple [.str "head", .int r, .str k, .int lo, .int hi]
  | .line r => .tuple [.str "line", .int r]
  | .foot r => .tuple [.str "foot", .int r]
def laneOf (hs : List Str) (z : Str) : Int := (hs.idxOf z : Nat)
def lanesL (hs : List Str) : List Letter → List Int
  | [] => []
  | l :: r => laneOf hs l.a :: laneOf hs l.b :: lanesL hs r
theorem lanesL_app (hs : List Str) : ∀ s t : List Letter, lanesL hs (s ++ t) = lanesL hs s ++ lanesL hs t
  | [], t => rfl
  | a :: r, t => by rw [List.cons_append, lanesL, lanesL, lanesL_app hs r t]; rfl
theorem lanesL_len (hs : List Str) : ∀ s : List Letter, (lanesL hs s).length = 2 * s.length
  | [] => rfl
  | a :: r => by rw [lanesL, List.length_cons, List.length_cons, lanesL_len hs r, List.length_cons]; omega
def frameOf (n : Nat) : List Int → Int × Int
  | [] => (0, (n : Int) - 1)
  | n :: ns => (ns.foldl min n, ns.foldl max n)
def frame (hs : List Str) (ls : List Letter) : Int × Int := frameOf hs.length (lanesL hs ls)
def Stp.kind : Stp → Str
  | .tell _ _ _ => "tell"
  | .choice _ => "choice"
  | .round _ => "round"
  | .both _ _ => "both"
mutual
def Stp.rows : Stp → Nat
  | .tell _ _ _ => 1
  | .choice bs => brsRows true bs + 2
  | .round s => stsRows s + 2
  | .both s t => stsRows s + stsRows t + 3
def stsRows : List Stp → Nat
  | [] => 0
  | s :: r => s.rows + stsRows r
def brsRows : Bool → List (List Stp) → Nat
  | _, [] => 0
  | true, s :: r => stsRows s + brsRows false r
  | false, s :: r => stsRows s + brsRows false r + 1
end
mutual
def Stp.marks (hs : List Str) (row : Nat) : Stp → List Mark
  | .tell a b w => [.letter row (laneOf hs a) (laneOf hs b) w]
  | .choice bs => .head row "choice" (frame hs (brsLets bs)).1 (frame hs (brsLets bs)).2 :: (brsMarks hs (row + 1) true bs ++ [.foot (row + 1 + brsRows true bs : Nat)])
  | .round s => .head row "round" (frame hs (stsLets s)).1 (frame hs (stsLets s)).2 :: (stsMarks hs (row + 1) s ++ [.foot (row + 1 + stsRows s : Nat)])
  | .both s t => .head row "both" (frame hs (stsLets s ++ stsLets t)).1 (frame hs (stsLets s ++ stsLets t)).2 :: (stsMarks hs (row + 1) s ++ .line (row + 1 + stsRows s : Nat) :: (stsMarks hs (row + 1 + stsRows s + 1) t ++ [.foot (row + 1 + stsRows s + 1 + stsRows t : Nat)]))
def stsMarks (hs : List Str) (row : Nat) : List Stp → List Mark
  | [] => []
  | s :: r => s.marks hs row ++ stsMarks hs (row + s.rows) r
def brsMarks (hs : List Str) (row : Nat) : Bool → List (List Stp) → List Mark
  | _, [] => []
  | true, s :: r => stsMarks hs row s ++ brsMarks hs (row + stsRows s) false r
  | false, s :: r => .line (row : Nat) :: (stsMarks hs (row + 1) s ++ brsMarks hs (row + 1 + stsRows s) false r)
end
mutual
theorem marks_len (hs : List Str) : ∀ (row : Nat) (x : Stp), (x.marks hs row).length = x.rows
  | row, .tell _ _ _ => by unfold Stp.marks Stp.rows; rfl
  | row, .choice bs => by unfold Stp.marks Stp.rows; simp [brsMarks_len hs]
  | row, .round s => by unfold Stp.marks Stp.rows; simp [stsMarks_len hs]
  | row, .both s t => by unfold Stp.marks Stp.rows; simp [stsMarks_len hs]; omega
theorem stsMarks_len (hs : List Str) : ∀ (row : Nat) (s : List Stp), (stsMarks hs row s).length = stsRows s
  | row, [] => rfl
  | row, x :: r => by rw [stsMarks, stsRows, List.length_append, marks_len hs row x, stsMarks_len hs _ r]
theorem brsMarks_len (hs : List Str) : ∀ (row : Nat) (b : Bool) (s : List (List Stp)), (brsMarks hs row b s).length = brsRows b s
  | row, b, [] => by cases b <;> (unfold brsMarks brsRows; rfl)
  | row, true, x :: r => by rw [brsMarks, brsRows, List.length_append, stsMarks_len hs row x, brsMarks_len hs _ false r]
  | row, false, x :: r => by rw [brsMarks, brsRows, List.length_cons, List.length_append, stsMarks_len hs _ x, brsMarks_len hs _ false r]
end
theorem stsRows_app : ∀ s t : List Stp, stsRows (s ++ t) = stsRows s + stsRows t
  | [], t => by simp [stsRows]
  | a :: r, t => by rw [List.cons_append, stsRows, stsRows, stsRows_app r t]; omega
theorem stsMarks_app (hs : List Str) : ∀ (s t : List Stp) (row : Nat), stsMarks hs row (s ++ t) = stsMarks hs row s ++ stsMarks hs (row + stsRows s) t
  | [], t, row => rfl
  | a :: r, t, row => by rw [List.cons_append, stsMarks, stsMarks, stsMarks_app hs r t, List.append_assoc, stsRows, Nat.add_assoc]
theorem brsRows_app (t : List Stp) : ∀ (s : List (List Stp)) (b : Bool), brsRows b (s ++ [t]) = brsRows b s + (if b && s.isEmpty then stsRows t else stsRows t + 1)
  | [], true => by simp [brsRows]
  | [], false => by simp [brsRows]
  | a :: r, true => by rw [List.cons_append, brsRows, brsRows, brsRows_app t r false]; simp; omega
  | a :: r, false => by rw [List.cons_append, brsRows, brsRows, brsRows_app t r false]; simp; omega
theorem brsMarks_app (hs : List Str) (t : List Stp) : ∀ (s : List (List Stp)) (b : Bool) (row : Nat), brsMarks hs row b (s ++ [t]) = brsMarks hs row b s ++ (if b && s.isEmpty then stsMarks hs row t else .line (row + brsRows b s : Nat) :: stsMarks hs (row + brsRows b s + 1) t)
  | [], true, row => by simp [brsMarks, brsRows]
  | [], false, row => by simp [brsMarks, brsRows]
  | a :: r, true, row => by
    rw [List.cons_append, brsMarks, brsMarks, brsMarks_app hs t r false, brsRows]
    simp [List.append_assoc, Nat.add_assoc]
  | a :: r, false, row => by
    rw [List.cons_append, brsMarks, brsMarks, brsMarks_app hs t r false, brsRows]
    have e : row + (stsRows a + brsRows false r + 1) = row + 1 + stsRows a + brsRows false r := by omega
    rw [e]
    simp [List.append_assoc]
theorem marks_parts (hs : List Str) {x : Stp} (h : x.isTell = false) (row : Nat) : x.marks hs row = .head row x.kind (frame hs x.lets).1 (frame hs x.lets).2 :: (brsMarks hs (row + 1) true x.parts ++ [.foot (row + 1 + brsRows true x.parts : Nat)]) := by
  cases x with
  | tell a b w => cases h
  | choice bs => unfold Stp.marks; rfl
  | round s => unfold Stp.marks; simp [Stp.parts, Stp.kind, Stp.lets, brsMarks, brsRows]
  | both s t =>
    unfold Stp.marks
    simp only [Stp.parts, Stp.kind, Stp.lets, brsMarks, brsRows, List.append_assoc, List.append_nil, List.cons_append]
    have e : row + 1 + (stsRows s + (stsRows t + 0 + 1)) = row + 1 + stsRows s + 1 + stsRows t := by omega
    rw [e]
theorem rows_parts {x : Stp} (h : x.isTell = false) : x.rows = brsRows true x.parts + 2 := by
  cases x with
  | tell a b w => cases h
  | choice bs => unfold Stp.rows; rfl
  | round s => unfold Stp.rows; simp [Stp.parts, brsRows]
  | both s t => unfold Stp.rows; simp [Stp.parts, brsRows]; omega
mutual
theorem rows_size : ∀ x : Stp, x.rows ≤ x.size
  | .tell _ _ _ => by unfold Stp.rows Stp.size; omega
  | .choice bs => by unfold Stp.rows Stp.size; have := brsRows_size true bs; omega
  | .round s => by unfold Stp.rows Stp.size; have := stsRows_size s; omega
  | .both s t => by unfold Stp.rows Stp.size; have := stsRows_size s; have := stsRows_size t; omega
theorem stsRows_size : ∀ s : List Stp, stsRows s ≤ stsSize s
  | [] => Nat.le_refl _
  | x :: r => by rw [stsRows, stsSize]; have := rows_size x; have := stsRows_size r; omega
theorem brsRows_size : ∀ (b : Bool) (s : List (List Stp)), brsRows b s ≤ brsSize s
  | b, [] => by cases b <;> (unfold brsRows; omega)
  | true, x :: r => by rw [brsRows, brsSize]; have := stsRows_size x; have := brsRows_size false r; omega
  | false, x :: r => by rw [brsRows, brsSize]; have := stsRows_size x; have := brsRows_size false r; omega
end
/-- all that write or are written to are hands -/
def LetsIn (hs : List Str) (ls : List Letter) : Prop := ∀ l ∈ ls, l.a ∈ hs ∧ l.b ∈ hs
theorem letsIn_part {hs : List Str} {x : Stp} (h : LetsIn hs x.lets) {p : List Stp} (hp : p ∈ x.parts) : LetsIn hs (stsLets p) := by
  cases hx : x.isTell with
  | true => cases x with
    | tell a b w => cases hp
    | _ => cases hx
  | false =>
    rw [lets_parts hx] at h
    obtain ⟨a, b, e⟩ := List.append_of_mem hp
    rw [e, brsLets_app, brsLets] at h
    intro l hl
    exact h l (by simp [hl])
theorem letsIn_step {hs : List Str} {s : List Stp} (h : LetsIn hs (stsLets s)) {x : Stp} (hx : x ∈ s) : LetsIn hs x.lets := by
  obtain ⟨a, b, e⟩ := List.append_of_mem hx
  rw [e, stsLets_app, stsLets] at h
  intro l hl
  exact h l (by simp [hl])
theorem zip_split {α : Type} {xs : List α} {pre post : List (α × Nat)} {t : α} {i : Nat} (h : xs.zipIdx = pre ++ (t, i) :: post) : i = pre.length ∧ xs = pre.map Prod.fst ++ t :: post.map Prod.fst := by
  have h1 := congrArg (fun l => l[pre.length]?) h
  simp only [List.getElem?_zipIdx, List.getElem?_append_right (Nat.le_refl _), Nat.sub_self, List.getElem?_cons_zero] at h1
  refine ⟨?_, ?_⟩
  · cases q : xs[pre.length]? with
    | none => rw [q] at h1; cases h1
    | some y => rw [q] at h1; simp at h1; exact h1.2.symm
  · have := congrArg (List.map Prod.fst) h
    rw [List.zipIdx_map_fst] at this
    simpa using this
theorem enum_map {α : Type} (e : α → PyData) (xs : List α) : enumD (xs.map e) = xs.zipIdx.map fun p => .tuple [.int (p.2 : Nat), e p.1] := by
  unfold enumD
  rw [List.zipIdx_map, List.map_map]
  rfl
section
variable {T : Tab} {g : Str → Option PyData} {fu : Nat}
structure Lay0 (T : Tab) : Prop where
  parts : T "parts_of" = some d_parts_of
  lets : T "letters_in" = some d_letters_in
  lanes : T "lanes_of" = some d_lanes_of
  marks : T "marks_of" = some d_marks_of
  laid : T "laid" = some d_laid
  height : T "height" = some d_height
theorem lanes_of_ok (G : Lay0 T) {hs : List Str} (hh : hs.length ≤ 100) {n k : Nat} {x : Stp} (hx : x.isTell = false) (hd : x.deep ≤ n) (hk : n + 3 ≤ k) (hz : x.size ≤ 1000000) (hl : LetsIn hs x.lets) :
    callAt T g fu k "lanes_of" [x.d, hsD hs] = some (.tuple [.int (frame hs x.lets).1, .int (frame hs x.lets).2]) := by
  obtain ⟨k, rfl⟩ := lvl (show 1 ≤ k by omega)
  refine call_at G.lanes rfl ?_
  have hps := parts_ok' (g := g) (fu := fu) G.parts (k := k) (by omega) x
  simp only [d_lanes_of, cmpl, exs, ex, ev, evs, evPart, evIt, sealE, sealIt, rd_val, rd_own, rd_succ, Lr.add_int, Lr.sub_int, bin_add, bin_sub, bin_mul, bin_fdiv, bin_mod, cmp_eq, cmp_ne, cmp_lt, cmp_le, cmp_gt, cmp_ge, cmp_in, cmp_notin, cmp_isN, cmp_isnotN, Lr.eq_int, Lr.ne_int, Lr.len_lst, Lr.len_tup, tuple_lst, tuple_tup, list_lst, list_tup, int_bl, bi_len, bi_tuple, bi_list, bi_int, bi_join, bi_any, bi_all, bi_index, bi_sorted, bi_min1, bi_max1, bi_max2, bi_abs, bi_sum, bi_split, idx_lst, idx_tup, Lr.sl_lst, Lr.sl_tup, and_t', and_f, or_f', or_t, blo, chain_f, chain_t, not_b, neg_i, cond_t, cond_f, rng1, rng2, list_of, part_i, seq_nx, seq_ret, seq_brk, seq_cont, if_t, if_f, own_some, own_val, own_non, sv_some, sv_none, bind_name, start0, Option.bind_some, Option.bind_none, Option.map_some, Option.map_none, List.map_cons, List.map_nil, List.length_cons, List.length_nil, List.replicate, List.cons_append, List.nil_append, List.getElem?_cons_zero, List.getElem?_cons_succ, List.set_cons_zero, List.set_cons_succ, Nat.reduceAdd, Nat.reduceSub, if_true, if_false, Bool.false_eq_true, reduceIte, decide_true, decide_false, Bool.not_true, Bool.not_false, tup_d, lst_d, sz0, sz1, sz2, sz3, sz4, sz5, bnd2, bnd2l, bnd3, set2, set3, abs_i, max2_i, lt_i, gt_i, le_i, ge_i, for_nil, sat_some, lo_nx, lo_cont, lo_brk, lo_ret, hps, parts_seq hz]
  refine for_ret x.parts (fun qre ρ => ∃ p q, ρ = [.val x.d, .val (hsD hs), .own ((lanesL hs (brsLets qre)).map .int), p, q]) ⟨_, _, rfl⟩ (fun qre t qost ρ ht ⟨p, q, hρ⟩ => ?_) (fun ρ' ⟨p, q, hρ⟩ => ?_)
  · subst hρ
    have htm : t ∈ x.parts := by rw [ht]; simp
    have hdt := deep_part htm
    have hbs := parts_size hx
    have hts := brsSize_mem htm
    have hlt := letsIn_part hl htm
    have hq : brsSize qre + stsSize t ≤ x.size := by rw [← hbs, ht, brsSize_app, brsSize]; omega
    have lq := brsLets_size qre
    have lt := stsLets_size t
    have ih := letters_in_ok (g := g) (fu := fu) G.parts G.lets (n - 1) k t (by omega) (by omega) (by omega)
    simp only [cmpl, exs, ex, ev, evs, evPart, evIt, sealE, sealIt, rd_val, rd_own, rd_succ, Lr.add_int, Lr.sub_int, bin_add, bin_sub, bin_mul, bin_fdiv, bin_mod, cmp_eq, cmp_ne, cmp_lt, cmp_le, cmp_gt, cmp_ge, cmp_in, cmp_notin, cmp_isN, cmp_isnotN, Lr.eq_int, Lr.ne_int, Lr.len_lst, Lr.len_tup, tuple_lst, tuple_tup, list_lst, list_tup, int_bl, bi_len, bi_tuple, bi_list, bi_int, bi_join, bi_any, bi_all, bi_index, bi_sorted, bi_min1, bi_max1, bi_max2, bi_abs, bi_sum, bi_split, idx_lst, idx_tup, Lr.sl_lst, Lr.sl_tup, and_t', and_f, or_f', or_t, blo, chain_f, chain_t, not_b, neg_i, cond_t, cond_f, rng1, rng2, list_of, part_i, seq_nx, seq_ret, seq_brk, seq_cont, if_t, if_f, own_some, own_val, own_non, sv_some, sv_none, bind_name, start0, Option.bind_some, Option.bind_none, Option.map_some, Option.map_none, List.map_cons, List.map_nil, List.length_cons, List.length_nil, List.replicate, List.cons_append, List.nil_append, List.getElem?_cons_zero, List.getElem?_cons_succ, List.set_cons_zero, List.set_cons_succ, Nat.reduceAdd, Nat.reduceSub, if_true, if_false, Bool.false_eq_true, reduceIte, decide_true, decide_false, Bool.not_true, Bool.not_false, tup_d, lst_d, sz0, sz1, sz2, sz3, sz4, sz5, bnd2, bnd2l, bnd3, set2, set3, abs_i, max2_i, lt_i, gt_i, le_i, ge_i, for_nil, sat_some, lo_nx, lo_cont, lo_brk, lo_ret, ih, lets_seq (show (stsLets t).length ≤ 1000000 by omega)]
    refine for_go (stsLets t) (fun rre ρ => ∃ p, ρ = [.val x.d, .val (hsD hs), .own ((lanesL hs (brsLets qre ++ rre)).map .int), p, .val (.tuple (stsD t))]) ⟨p, by simp⟩ (fun rre l rost ρ hr ⟨p, hρ⟩ => ?_) (fun ρ' ⟨p, hρ⟩ => ?_)
    · subst hρ
      obtain ⟨h1, h2⟩ := hlt l (by rw [hr]; simp)
      have hrl : (stsLets t).length = rre.length + (rost.length + 1) := by rw [hr]; simp
      have hsz : szOk (((lanesL hs (brsLets qre ++ rre)).map PyData.int).length + 2) = true := sz_ok (by rw [List.length_map, lanesL_len, List.length_append]; omega)
      simp only [cmpl, exs, ex, ev, evs, evPart, evIt, sealE, sealIt, rd_val, rd_own, rd_succ, Lr.add_int, Lr.sub_int, bin_add, bin_sub, bin_mul, bin_fdiv, bin_mod, cmp_eq, cmp_ne, cmp_lt, cmp_le, cmp_gt, cmp_ge, cmp_in, cmp_notin, cmp_isN, cmp_isnotN, Lr.eq_int, Lr.ne_int, Lr.len_lst, Lr.len_tup, tuple_lst, tuple_tup, list_lst, list_tup, int_bl, bi_len, bi_tuple, bi_list, bi_int, bi_join, bi_any, bi_all, bi_index, bi_sorted, bi_min1, bi_max1, bi_max2, bi_abs, bi_sum, bi_split, idx_lst, idx_tup, Lr.sl_lst, Lr.sl_tup, and_t', and_f, or_f', or_t, blo, chain_f, chain_t, not_b, neg_i, cond_t, cond_f, rng1, rng2, list_of, part_i, seq_nx, seq_ret, seq_brk, seq_cont, if_t, if_f, own_some, own_val, own_non, sv_some, sv_none, bind_name, start0, Option.bind_some, Option.bind_none, Option.map_some, Option.map_none, List.map_cons, List.map_nil, List.length_cons, List.length_nil, List.replicate, List.cons_append, List.nil_append, List.getElem?_cons_zero, List.getElem?_cons_succ, List.set_cons_zero, List.set_cons_succ, Nat.reduceAdd, Nat.reduceSub, if_true, if_false, Bool.false_eq_true, reduceIte, decide_true, decide_false, Bool.not_true, Bool.not_false, tup_d, lst_d, sz0, sz1, sz2, sz3, sz4, sz5, bnd2, bnd2l, bnd3, set2, set3, abs_i, max2_i, lt_i, gt_i, le_i, ge_i, for_nil, sat_some, lo_nx, lo_cont, lo_brk, lo_ret, Letter.d, at0, at1, index_hs h1, index_hs h2, hsz]
      exact ⟨.val l.d, by rw [← List.append_assoc, lanesL_app hs (brsLets qre ++ rre), List.map_append]; rfl⟩
    · subst hρ
      simp only [cmpl, exs, ex, ev, evs, evPart, evIt, sealE, sealIt, rd_val, rd_own, rd_succ, Lr.add_int, Lr.sub_int, bin_add, bin_sub, bin_mul, bin_fdiv, bin_mod, cmp_eq, cmp_ne, cmp_lt, cmp_le, cmp_gt, cmp_ge, cmp_in, cmp_notin, cmp_isN, cmp_isnotN, Lr.eq_int, Lr.ne_int, Lr.len_lst, Lr.len_tup, tuple_lst, tuple_tup, list_lst, list_tup, int_bl, bi_len, bi_tuple, bi_list, bi_int, bi_join, bi_any, bi_all, bi_index, bi_sorted, bi_min1, bi_max1, bi_max2, bi_abs, bi_sum, bi_split, idx_lst, idx_tup, Lr.sl_lst, Lr.sl_tup, and_t', and_f, or_f', or_t, blo, chain_f, chain_t, not_b, neg_i, cond_t, cond_f, rng1, rng2, list_of, part_i, seq_nx, seq_ret, seq_brk, seq_cont, if_t, if_f, own_some, own_val, own_non, sv_some, sv_none, bind_name, start0, Option.bind_some, Option.bind_none, Option.map_some, Option.map_none, List.map_cons, List.map_nil, List.length_cons, List.length_nil, List.replicate, List.cons_append, List.nil_append, List.getElem?_cons_zero, List.getElem?_cons_succ, List.set_cons_zero, List.set_cons_succ, Nat.reduceAdd, Nat.reduceSub, if_true, if_false, Bool.false_eq_true, reduceIte, decide_true, decide_false, Bool.not_true, Bool.not_false, tup_d, lst_d, sz0, sz1, sz2, sz3, sz4, sz5, bnd2, bnd2l, bnd3, set2, set3, abs_i, max2_i, lt_i, gt_i, le_i, ge_i, for_nil, sat_some, lo_nx, lo_cont, lo_brk, lo_ret]
      exact ⟨p, .val (.tuple (stsD t)), by rw [show brsLets (qre ++ [t]) = brsLets qre ++ stsLets t by rw [brsLets_app]; simp [brsLets]]⟩
  · subst hρ
    rw [← lets_parts hx]
    have hhl : lenEv [hsD hs] = some (.int hs.length) := by show some (PyData.int ((hs.map PyData.str).length : Nat)) = _; rw [List.length_map]
    simp only [cmpl, exs, ex, ev, evs, evPart, evIt, sealE, sealIt, rd_val, rd_own, rd_succ, Lr.add_int, Lr.sub_int, bin_add, bin_sub, bin_mul, bin_fdiv, bin_mod, cmp_eq, cmp_ne, cmp_lt, cmp_le, cmp_gt, cmp_ge, cmp_in, cmp_notin, cmp_isN, cmp_isnotN, Lr.eq_int, Lr.ne_int, Lr.len_lst, Lr.len_tup, tuple_lst, tuple_tup, list_lst, list_tup, int_bl, bi_len, bi_tuple, bi_list, bi_int, bi_join, bi_any, bi_all, bi_index, bi_sorted, bi_min1, bi_max1, bi_max2, bi_abs, bi_sum, bi_split, idx_lst, idx_tup, Lr.sl_lst, Lr.sl_tup, and_t', and_f, or_f', or_t, blo, chain_f, chain_t, not_b, neg_i, cond_t, cond_f, rng1, rng2, list_of, part_i, seq_nx, seq_ret, seq_brk, seq_cont, if_t, if_f, own_some, own_val, own_non, sv_some, sv_none, bind_name, start0, Option.bind_some, Option.bind_none, Option.map_some, Option.map_none, List.map_cons, List.map_nil, List.length_cons, List.length_nil, List.replicate, List.cons_append, List.nil_append, List.getElem?_cons_zero, List.getElem?_cons_succ, List.set_cons_zero, List.set_cons_succ, Nat.reduceAdd, Nat.reduceSub, if_true, if_false, Bool.false_eq_true, reduceIte, decide_true, decide_false, Bool.not_true, Bool.not_false, tup_d, lst_d, sz0, sz1, sz2, sz3, sz4, sz5, bnd2, bnd2l, bnd3, set2, set3, abs_i, max2_i, lt_i, gt_i, le_i, ge_i, for_nil, sat_some, lo_nx, lo_cont, lo_brk, lo_ret, List.length_map]
    unfold frame
    cases e : lanesL hs x.lets with
    | nil =>
      simp only [cmpl, exs, ex, ev, evs, evPart, evIt, sealE, sealIt, rd_val, rd_own, rd_succ, Lr.add_int, Lr.sub_int, bin_add, bin_sub, bin_mul, bin_fdiv, bin_mod, cmp_eq, cmp_ne, cmp_lt, cmp_le, cmp_gt, cmp_ge, cmp_in, cmp_notin, cmp_isN, cmp_isnotN, Lr.eq_int, Lr.ne_int, Lr.len_lst, Lr.len_tup, tuple_lst, tuple_tup, list_lst, list_tup, int_bl, bi_len, bi_tuple, bi_list, bi_int, bi_join, bi_any, bi_all, bi_index, bi_sorted, bi_min1, bi_max1, bi_max2, bi_abs, bi_sum, bi_split, idx_lst, idx_tup, Lr.sl_lst, Lr.sl_tup, and_t', and_f, or_f', or_t, blo, chain_f, chain_t, not_b, neg_i, cond_t, cond_f, rng1, rng2, list_of, part_i, seq_nx, seq_ret, seq_brk, seq_cont, if_t, if_f, own_some, own_val, own_non, sv_some, sv_none, bind_name, start0, Option.bind_some, Option.bind_none, Option.map_some, Option.map_none, List.map_cons, List.map_nil, List.length_cons, List.length_nil, List.replicate, List.cons_append, List.nil_append, List.getElem?_cons_zero, List.getElem?_cons_succ, List.set_cons_zero, List.set_cons_succ, Nat.reduceAdd, Nat.reduceSub, if_true, if_false, Bool.false_eq_true, reduceIte, decide_true, decide_false, Bool.not_true, Bool.not_false, tup_d, lst_d, sz0, sz1, sz2, sz3, sz4, sz5, bnd2, bnd2l, bnd3, set2, set3, abs_i, max2_i, lt_i, gt_i, le_i, ge_i, for_nil, sat_some, lo_nx, lo_cont, lo_brk, lo_ret, List.length_nil, hhl]
      rfl
    | cons m ms =>
      have hne : ¬ (((m :: ms).length : Nat) : Int) = 0 := by simp; omega
      simp only [decide_eq_false hne]
      simp only [cmpl, exs, ex, ev, evs, evPart, evIt, sealE, sealIt, rd_val, rd_own, rd_succ, Lr.add_int, Lr.sub_int, bin_add, bin_sub, bin_mul, bin_fdiv, bin_mod, cmp_eq, cmp_ne, cmp_lt, cmp_le, cmp_gt, cmp_ge, cmp_in, cmp_notin, cmp_isN, cmp_isnotN, Lr.eq_int, Lr.ne_int, Lr.len_lst, Lr.len_tup, tuple_lst, tuple_tup, list_lst, list_tup, int_bl, bi_len, bi_tuple, bi_list, bi_int, bi_join, bi_any, bi_all, bi_index, bi_sorted, bi_min1, bi_max1, bi_max2, bi_abs, bi_sum, bi_split, idx_lst, idx_tup, Lr.sl_lst, Lr.sl_tup, and_t', and_f, or_f', or_t, blo, chain_f, chain_t, not_b, neg_i, cond_t, cond_f, rng1, rng2, list_of, part_i, seq_nx, seq_ret, seq_brk, seq_cont, if_t, if_f, own_some, own_val, own_non, sv_some, sv_none, bind_name, start0, Option.bind_some, Option.bind_none, Option.map_some, Option.map_none, List.map_cons, List.map_nil, List.length_cons, List.length_nil, List.replicate, List.cons_append, List.nil_append, List.getElem?_cons_zero, List.getElem?_cons_succ, List.set_cons_zero, List.set_cons_succ, Nat.reduceAdd, Nat.reduceSub, if_true, if_false, Bool.false_eq_true, reduceIte, decide_true, decide_false, Bool.not_true, Bool.not_false, tup_d, lst_d, sz0, sz1, sz2, sz3, sz4, sz5, bnd2, bnd2l, bnd3, set2, set3, abs_i, max2_i, lt_i, gt_i, le_i, ge_i, for_nil, sat_some, lo_nx, lo_cont, lo_brk, lo_ret]
      have h1 := min_ints m ms
      have h2 := max_ints m ms
      simp only [List.map_cons] at h1 h2
      simp only [cmpl, exs, ex, ev, evs, evPart, evIt, sealE, sealIt, rd_val, rd_own, rd_succ, Lr.add_int, Lr.sub_int, bin_add, bin_sub, bin_mul, bin_fdiv, bin_mod, cmp_eq, cmp_ne, cmp_lt, cmp_le, cmp_gt, cmp_ge, cmp_in, cmp_notin, cmp_isN, cmp_isnotN, Lr.eq_int, Lr.ne_int, Lr.len_lst, Lr.len_tup, tuple_lst, tuple_tup, list_lst, list_tup, int_bl, bi_len, bi_tuple, bi_list, bi_int, bi_join, bi_any, bi_all, bi_index, bi_sorted, bi_min1, bi_max1, bi_max2, bi_abs, bi_sum, bi_split, idx_lst, idx_tup, Lr.sl_lst, Lr.sl_tup, and_t', and_f, or_f', or_t, blo, chain_f, chain_t, not_b, neg_i, cond_t, cond_f, rng1, rng2, list_of, part_i, seq_nx, seq_ret, seq_brk, seq_cont, if_t, if_f, own_some, own_val, own_non, sv_some, sv_none, bind_name, start0, Option.bind_some, Option.bind_none, Option.map_some, Option.map_none, List.map_cons, List.map_nil, List.length_cons, List.length_nil, List.replicate, List.cons_append, List.nil_append, List.getElem?_cons_zero, List.getElem?_cons_succ, List.set_cons_zero, List.set_cons_succ, Nat.reduceAdd, Nat.reduceSub, if_true, if_false, Bool.false_eq_true, reduceIte, decide_true, decide_false, Bool.not_true, Bool.not_false, tup_d, lst_d, sz0, sz1, sz2, sz3, sz4, sz5, bnd2, bnd2l, bnd3, set2, set3, abs_i, max2_i, lt_i, gt_i, le_i, ge_i, for_nil, sat_some, lo_nx, lo_cont, lo_brk, lo_ret, h1, h2]
      rfl
end
end Lr
namespace Lr
open PySem PySem.Spec PyProof.Rows L2
theorem idxk (x : Stp) : idxEv x.d (.int 0) = some (.str x.kind) := by cases x <;> rfl
theorem eqk (x : Stp) : eqEv (.str x.kind) (.str "tell") = some x.isTell := by
  cases x with
  | tell a b w => exact e_tt
  | choice bs => exact e_ct
  | round s => exact e_rt
  | both s t => exact e_bt
theorem len_list (xs : List PyData) : lenEv [.list xs] = some (.int (xs.length : Nat)) := rfl
theorem enum_tup {xs : List PyData} (h : xs.length ≤ 1000000) : enumEv (.tuple xs) = some (enumD xs) := by
  show (if szOk xs.length then _ else _) = _
  rw [sz_ok (by omega)]; rfl
theorem brs_snoc {qre : List (List Stp)} {t : List Stp} : brsLets (qre ++ [t]) = brsLets qre ++ stsLets t := by rw [brsLets_app]; simp [brsLets]
section
variable {T : Tab} {g : Str → Option PyData} {fu : Nat}
theorem marks_of_ok (G : Lay0 T) {hs : List Str} (hh : hs.length ≤ 100) : ∀ (n k row : Nat) (s : List Stp), stsDeep s ≤ n → n + 4 ≤ k → stsSize s ≤ 1000000 → LetsIn hs (stsLets s) →
    callAt T g fu k "marks_of" [.tuple (stsD s), hsD hs, .int row] = some (.list ((stsMarks hs row s).map Mark.d))
  | n, k, row, s, hd, hk, hz, hl => by
    obtain ⟨k, rfl⟩ := lvl (show 1 ≤ k by omega)
    refine call_at G.marks rfl ?_
    simp only [d_marks_of, cmpl, exs, ex, ev, evs, evPart, evIt, sealE, sealIt, rd_val, rd_own, rd_succ, Lr.add_int, Lr.sub_int, bin_add, bin_sub, bin_mul, bin_fdiv, bin_mod, cmp_eq, cmp_ne, cmp_lt, cmp_le, cmp_gt, cmp_ge, cmp_in, cmp_notin, cmp_isN, cmp_isnotN, Lr.eq_int, Lr.ne_int, Lr.len_lst, Lr.len_tup, tuple_lst, tuple_tup, list_lst, list_tup, int_bl, bi_len, bi_tuple, bi_list, bi_int, bi_join, bi_any, bi_all, bi_index, bi_sorted, bi_min1, bi_max1, bi_max2, bi_abs, bi_sum, bi_split, idx_lst, idx_tup, Lr.sl_lst, Lr.sl_tup, and_t', and_f, or_f', or_t, blo, chain_f, chain_t, not_b, neg_i, cond_t, cond_f, rng1, rng2, list_of, part_i, seq_nx, seq_ret, seq_brk, seq_cont, if_t, if_f, own_some, own_val, own_non, sv_some, sv_none, bind_name, start0, Option.bind_some, Option.bind_none, Option.map_some, Option.map_none, List.map_cons, List.map_nil, List.length_cons, List.length_nil, List.replicate, List.cons_append, List.nil_append, List.getElem?_cons_zero, List.getElem?_cons_succ, List.set_cons_zero, List.set_cons_succ, Nat.reduceAdd, Nat.reduceSub, if_true, if_false, Bool.false_eq_true, reduceIte, decide_true, decide_false, Bool.not_true, Bool.not_false, tup_d, lst_d, sz0, sz1, sz2, sz3, sz4, sz5, bnd2, bnd2l, bnd3, set2, set3, abs_i, max2_i, lt_i, gt_i, le_i, ge_i, for_nil, sat_some, lo_nx, lo_cont, lo_brk, lo_ret, sts_seq hz]
    refine for_ret s (fun pre ρ => ∃ p q r x, ρ = [.val (.tuple (stsD s)), .val (hsD hs), .val (.int row), p, .own ((stsMarks hs row pre).map Mark.d), q, r, x]) ⟨_, _, _, _, rfl⟩ (fun pre x post ρ hx ⟨p, q, r, y, hρ⟩ => ?_) (fun ρ' ⟨p, q, r, x, hρ⟩ => ?_)
    · subst hρ
      have hxs : x ∈ s := by rw [hx]; simp
      have hsz : stsSize pre + x.size ≤ 1000000 := by rw [hx, stsSize_app, stsSize] at hz; omega
      have r1 := stsRows_size pre
      have r2 := rows_size x
      have hlx := letsIn_step hl hxs
      have hdx := deep_mem hxs
      have e2 : stsMarks hs row (pre ++ [x]) = stsMarks hs row pre ++ x.marks hs (row + stsRows pre) := by rw [stsMarks_app]; simp [stsMarks]
      have e3 : ((row : Nat) : Int) + ((stsRows pre : Nat) : Int) = ((row + stsRows pre : Nat) : Int) := by omega
      simp only [cmpl, exs, ex, ev, evs, evPart, evIt, sealE, sealIt, rd_val, rd_own, rd_succ, Lr.add_int, Lr.sub_int, bin_add, bin_sub, bin_mul, bin_fdiv, bin_mod, cmp_eq, cmp_ne, cmp_lt, cmp_le, cmp_gt, cmp_ge, cmp_in, cmp_notin, cmp_isN, cmp_isnotN, Lr.eq_int, Lr.ne_int, Lr.len_lst, Lr.len_tup, tuple_lst, tuple_tup, list_lst, list_tup, int_bl, bi_len, bi_tuple, bi_list, bi_int, bi_join, bi_any, bi_all, bi_index, bi_sorted, bi_min1, bi_max1, bi_max2, bi_abs, bi_sum, bi_split, idx_lst, idx_tup, Lr.sl_lst, Lr.sl_tup, and_t', and_f, or_f', or_t, blo, chain_f, chain_t, not_b, neg_i, cond_t, cond_f, rng1, rng2, list_of, part_i, seq_nx, seq_ret, seq_brk, seq_cont, if_t, if_f, own_some, own_val, own_non, sv_some, sv_none, bind_name, start0, Option.bind_some, Option.bind_none, Option.map_some, Option.map_none, List.map_cons, List.map_nil, List.length_cons, List.length_nil, List.replicate, List.cons_append, List.nil_append, List.getElem?_cons_zero, List.getElem?_cons_succ, List.set_cons_zero, List.set_cons_succ, Nat.reduceAdd, Nat.reduceSub, if_true, if_false, Bool.false_eq_true, reduceIte, decide_true, decide_false, Bool.not_true, Bool.not_false, tup_d, lst_d, sz0, sz1, sz2, sz3, sz4, sz5, bnd2, bnd2l, bnd3, set2, set3, abs_i, max2_i, lt_i, gt_i, le_i, ge_i, for_nil, sat_some, lo_nx, lo_cont, lo_brk, lo_ret, idxk, eqk, List.length_map, stsMarks_len, e2, e3]
      cases hxt : x.isTell with
      | true =>
        cases x with
        | tell a b w =>
          obtain ⟨h1, h2⟩ := hlx ⟨a, b, w⟩ (by simp [Stp.lets])
          simp only [Stp.d]
          simp only [cmpl, exs, ex, ev, evs, evPart, evIt, sealE, sealIt, rd_val, rd_own, rd_succ, Lr.add_int, Lr.sub_int, bin_add, bin_sub, bin_mul, bin_fdiv, bin_mod, cmp_eq, cmp_ne, cmp_lt, cmp_le, cmp_gt, cmp_ge, cmp_in, cmp_notin, cmp_isN, cmp_isnotN, Lr.eq_int, Lr.ne_int, Lr.len_lst, Lr.len_tup, tuple_lst, tuple_tup, list_lst, list_tup, int_bl, bi_len, bi_tuple, bi_list, bi_int, bi_join, bi_any, bi_all, bi_index, bi_sorted, bi_min1, bi_max1, bi_max2, bi_abs, bi_sum, bi_split, idx_lst, idx_tup, Lr.sl_lst, Lr.sl_tup, and_t', and_f, or_f', or_t, blo, chain_f, chain_t, not_b, neg_i, cond_t, cond_f, rng1, rng2, list_of, part_i, seq_nx, seq_ret, seq_brk, seq_cont, if_t, if_f, own_some, own_val, own_non, sv_some, sv_none, bind_name, start0, Option.bind_some, Option.bind_none, Option.map_some, Option.map_none, List.map_cons, List.map_nil, List.length_cons, List.length_nil, List.replicate, List.cons_append, List.nil_append, List.getElem?_cons_zero, List.getElem?_cons_succ, List.set_cons_zero, List.set_cons_succ, Nat.reduceAdd, Nat.reduceSub, if_true, if_false, Bool.false_eq_true, reduceIte, decide_true, decide_false, Bool.not_true, Bool.not_false, tup_d, lst_d, sz0, sz1, sz2, sz3, sz4, sz5, bnd2, bnd2l, bnd3, set2, set3, abs_i, max2_i, lt_i, gt_i, le_i, ge_i, for_nil, sat_some, lo_nx, lo_cont, lo_brk, lo_ret, at1, at2, at3, index_hs h1, index_hs h2, sz_ok (show stsRows pre + 1 ≤ 16777216 by omega)]
          exact ⟨p, .val (.int (row + stsRows pre : Nat)), r, .val (Stp.tell a b w).d, by simp only [Stp.marks, List.map_append]; rfl⟩
        | _ => cases hxt
      | false =>
        have hla := lanes_of_ok (g := g) (fu := fu) G hh (n := n) (k := k) hxt (by omega) (by omega) (by omega) hlx
        have hps := parts_ok' (g := g) (fu := fu) G.parts (k := k) (by omega) x
        have hpl : x.parts.length ≤ 1000000 := by have := blen_size x.parts; have := parts_size_le x; omega
        have hbs := parts_size hxt
        have hbr := brsRows_size true x.parts
        simp only [cmpl, exs, ex, ev, evs, evPart, evIt, sealE, sealIt, rd_val, rd_own, rd_succ, Lr.add_int, Lr.sub_int, bin_add, bin_sub, bin_mul, bin_fdiv, bin_mod, cmp_eq, cmp_ne, cmp_lt, cmp_le, cmp_gt, cmp_ge, cmp_in, cmp_notin, cmp_isN, cmp_isnotN, Lr.eq_int, Lr.ne_int, Lr.len_lst, Lr.len_tup, tuple_lst, tuple_tup, list_lst, list_tup, int_bl, bi_len, bi_tuple, bi_list, bi_int, bi_join, bi_any, bi_all, bi_index, bi_sorted, bi_min1, bi_max1, bi_max2, bi_abs, bi_sum, bi_split, idx_lst, idx_tup, Lr.sl_lst, Lr.sl_tup, and_t', and_f, or_f', or_t, blo, chain_f, chain_t, not_b, neg_i, cond_t, cond_f, rng1, rng2, list_of, part_i, seq_nx, seq_ret, seq_brk, seq_cont, if_t, if_f, own_some, own_val, own_non, sv_some, sv_none, bind_name, start0, Option.bind_some, Option.bind_none, Option.map_some, Option.map_none, List.map_cons, List.map_nil, List.length_cons, List.length_nil, List.replicate, List.cons_append, List.nil_append, List.getElem?_cons_zero, List.getElem?_cons_succ, List.set_cons_zero, List.set_cons_succ, Nat.reduceAdd, Nat.reduceSub, if_true, if_false, Bool.false_eq_true, reduceIte, decide_true, decide_false, Bool.not_true, Bool.not_false, tup_d, lst_d, sz0, sz1, sz2, sz3, sz4, sz5, bnd2, bnd2l, bnd3, set2, set3, abs_i, max2_i, lt_i, gt_i, le_i, ge_i, for_nil, sat_some, lo_nx, lo_cont, lo_brk, lo_ret, hla, Lr.add_tup, sz_ok (show stsRows pre + 1 ≤ 16777216 by omega), hps, enum_tup (show (x.parts.map fun t => PyData.tuple (stsD t)).length ≤ 1000000 by rw [List.length_map]; exact hpl), enum_map]
        obtain ⟨M, hM⟩ : ∃ M : List Mark, M = stsMarks hs row pre ++ [.head (row + stsRows pre : Nat) x.kind (frame hs x.lets).1 (frame hs x.lets).2] := ⟨_, rfl⟩
        have lM : M.length = stsRows pre + 1 := by rw [hM, List.length_append, stsMarks_len]; rfl
        rw [Option.bind_assoc]
        refine for_go x.parts.zipIdx (fun qre ρ => ∃ p r, ρ = [.val (.tuple (stsD s)), .val (hsD hs), .val (.int row), p, .own ((M ++ brsMarks hs (row + stsRows pre + 1) true (qre.map Prod.fst)).map Mark.d), .val (.int (row + stsRows pre : Nat)), r, .val x.d]) ?_ (fun qre ti qost ρ ht ⟨p, r, hρ⟩ => ?_) (fun ρ' ⟨p, r, hρ⟩ => ?_)
        · exact ⟨p, r, by rw [hM]; simp [brsMarks, Mark.d]⟩
        · subst hρ
          obtain ⟨t, i⟩ := ti
          obtain ⟨rfl, hpe⟩ := zip_split ht
          have htm : t ∈ x.parts := by rw [hpe]; simp
          have hdt := deep_part htm
          have hts := brsSize_mem htm
          have hq : brsSize (qre.map Prod.fst) + (stsSize t + 1) ≤ x.size := by rw [← hbs, hpe, brsSize_app, brsSize]; omega
          have rq := brsRows_size true (qre.map Prod.fst)
          have rt := stsRows_size t
          have hlt := letsIn_part hlx htm
          have e5 : (M ++ brsMarks hs (row + stsRows pre + 1) true (qre.map Prod.fst)).length = stsRows pre + 1 + brsRows true (qre.map Prod.fst) := by rw [List.length_append, lM, brsMarks_len]
          rw [List.map_append (f := Prod.fst)]
          show Sat _ (LoopO (fun ρ => ∃ p r, ρ = [_, _, _, p, .own ((M ++ brsMarks hs (row + stsRows pre + 1) true (qre.map Prod.fst ++ [t])).map Mark.d), _, r, _]) NoO)
          rw [brsMarks_app]
          by_cases h0 : qre = []
          · subst h0
            have ih := marks_of_ok G hh (n - 1) k (row + stsRows pre + 1) t (by omega) (by omega) (by omega) hlt
            have e6 : ((row : Nat) : Int) + ((stsRows pre + 1 : Nat) : Int) = ((row + stsRows pre + 1 : Nat) : Int) := by omega
            have g0 : decide ((0 : Int) < ((0 : Nat) : Int)) = false := by decide
            simp only [List.map_nil, List.length_nil, brsMarks, List.append_nil, List.isEmpty_nil, Bool.and_self, if_true]
            simp only [cmpl, exs, ex, ev, evs, evPart, evIt, sealE, sealIt, rd_val, rd_own, rd_succ, Lr.add_int, Lr.sub_int, bin_add, bin_sub, bin_mul, bin_fdiv, bin_mod, cmp_eq, cmp_ne, cmp_lt, cmp_le, cmp_gt, cmp_ge, cmp_in, cmp_notin, cmp_isN, cmp_isnotN, Lr.eq_int, Lr.ne_int, Lr.len_lst, Lr.len_tup, tuple_lst, tuple_tup, list_lst, list_tup, int_bl, bi_len, bi_tuple, bi_list, bi_int, bi_join, bi_any, bi_all, bi_index, bi_sorted, bi_min1, bi_max1, bi_max2, bi_abs, bi_sum, bi_split, idx_lst, idx_tup, Lr.sl_lst, Lr.sl_tup, and_t', and_f, or_f', or_t, blo, chain_f, chain_t, not_b, neg_i, cond_t, cond_f, rng1, rng2, list_of, part_i, seq_nx, seq_ret, seq_brk, seq_cont, if_t, if_f, own_some, own_val, own_non, sv_some, sv_none, bind_name, start0, Option.bind_some, Option.bind_none, Option.map_some, Option.map_none, List.map_cons, List.map_nil, List.length_cons, List.length_nil, List.replicate, List.cons_append, List.nil_append, List.getElem?_cons_zero, List.getElem?_cons_succ, List.set_cons_zero, List.set_cons_succ, Nat.reduceAdd, Nat.reduceSub, if_true, if_false, Bool.false_eq_true, reduceIte, decide_true, decide_false, Bool.not_true, Bool.not_false, tup_d, lst_d, sz0, sz1, sz2, sz3, sz4, sz5, bnd2, bnd2l, bnd3, set2, set3, abs_i, max2_i, lt_i, gt_i, le_i, ge_i, for_nil, sat_some, lo_nx, lo_cont, lo_brk, lo_ret, g0, List.length_map, lM, e6, ih, stsMarks_len, sz_ok (show stsRows pre + 1 + stsRows t ≤ 16777216 by omega)]
            exact ⟨_, _, by rw [List.map_append]⟩
          · have hqp : 0 < qre.length := List.length_pos_iff.mpr h0
            have g0 : decide ((0 : Int) < ((qre.length : Nat) : Int)) = true := decide_eq_true (by omega)
            have he : (qre.map Prod.fst).isEmpty = false := by cases qre with | nil => exact absurd rfl h0 | cons a b => rfl
            have ih := marks_of_ok G hh (n - 1) k (row + stsRows pre + 1 + brsRows true (qre.map Prod.fst) + 1) t (by omega) (by omega) (by omega) hlt
            have e6 : ((row : Nat) : Int) + ((stsRows pre + 1 + brsRows true (qre.map Prod.fst) : Nat) : Int) = ((row + stsRows pre + 1 + brsRows true (qre.map Prod.fst) : Nat) : Int) := by omega
            have e7 : ((row : Nat) : Int) + ((stsRows pre + 1 + brsRows true (qre.map Prod.fst) + 1 : Nat) : Int) = ((row + stsRows pre + 1 + brsRows true (qre.map Prod.fst) + 1 : Nat) : Int) := by omega
            simp only [he, Bool.and_false, Bool.false_eq_true, if_false]
            simp only [cmpl, exs, ex, ev, evs, evPart, evIt, sealE, sealIt, rd_val, rd_own, rd_succ, Lr.add_int, Lr.sub_int, bin_add, bin_sub, bin_mul, bin_fdiv, bin_mod, cmp_eq, cmp_ne, cmp_lt, cmp_le, cmp_gt, cmp_ge, cmp_in, cmp_notin, cmp_isN, cmp_isnotN, Lr.eq_int, Lr.ne_int, Lr.len_lst, Lr.len_tup, tuple_lst, tuple_tup, list_lst, list_tup, int_bl, bi_len, bi_tuple, bi_list, bi_int, bi_join, bi_any, bi_all, bi_index, bi_sorted, bi_min1, bi_max1, bi_max2, bi_abs, bi_sum, bi_split, idx_lst, idx_tup, Lr.sl_lst, Lr.sl_tup, and_t', and_f, or_f', or_t, blo, chain_f, chain_t, not_b, neg_i, cond_t, cond_f, rng1, rng2, list_of, part_i, seq_nx, seq_ret, seq_brk, seq_cont, if_t, if_f, own_some, own_val, own_non, sv_some, sv_none, bind_name, start0, Option.bind_some, Option.bind_none, Option.map_some, Option.map_none, List.map_cons, List.map_nil, List.length_cons, List.length_nil, List.replicate, List.cons_append, List.nil_append, List.getElem?_cons_zero, List.getElem?_cons_succ, List.set_cons_zero, List.set_cons_succ, Nat.reduceAdd, Nat.reduceSub, if_true, if_false, Bool.false_eq_true, reduceIte, decide_true, decide_false, Bool.not_true, Bool.not_false, tup_d, lst_d, sz0, sz1, sz2, sz3, sz4, sz5, bnd2, bnd2l, bnd3, set2, set3, abs_i, max2_i, lt_i, gt_i, le_i, ge_i, for_nil, sat_some, lo_nx, lo_cont, lo_brk, lo_ret, g0, List.length_map, e5, e6, List.length_append, sz_ok (show stsRows pre + 1 + brsRows true (qre.map Prod.fst) + 1 ≤ 16777216 by omega)]
            simp only [cmpl, exs, ex, ev, evs, evPart, evIt, sealE, sealIt, rd_val, rd_own, rd_succ, Lr.add_int, Lr.sub_int, bin_add, bin_sub, bin_mul, bin_fdiv, bin_mod, cmp_eq, cmp_ne, cmp_lt, cmp_le, cmp_gt, cmp_ge, cmp_in, cmp_notin, cmp_isN, cmp_isnotN, Lr.eq_int, Lr.ne_int, Lr.len_lst, Lr.len_tup, tuple_lst, tuple_tup, list_lst, list_tup, int_bl, bi_len, bi_tuple, bi_list, bi_int, bi_join, bi_any, bi_all, bi_index, bi_sorted, bi_min1, bi_max1, bi_max2, bi_abs, bi_sum, bi_split, idx_lst, idx_tup, Lr.sl_lst, Lr.sl_tup, and_t', and_f, or_f', or_t, blo, chain_f, chain_t, not_b, neg_i, cond_t, cond_f, rng1, rng2, list_of, part_i, seq_nx, seq_ret, seq_brk, seq_cont, if_t, if_f, own_some, own_val, own_non, sv_some, sv_none, bind_name, start0, Option.bind_some, Option.bind_none, Option.map_some, Option.map_none, List.map_cons, List.map_nil, List.length_cons, List.length_nil, List.replicate, List.cons_append, List.nil_append, List.getElem?_cons_zero, List.getElem?_cons_succ, List.set_cons_zero, List.set_cons_succ, Nat.reduceAdd, Nat.reduceSub, if_true, if_false, Bool.false_eq_true, reduceIte, decide_true, decide_false, Bool.not_true, Bool.not_false, tup_d, lst_d, sz0, sz1, sz2, sz3, sz4, sz5, bnd2, bnd2l, bnd3, set2, set3, abs_i, max2_i, lt_i, gt_i, le_i, ge_i, for_nil, sat_some, lo_nx, lo_cont, lo_brk, lo_ret, List.length_map, ← List.length_append, e5, e7, ih, stsMarks_len, sz_ok (show stsRows pre + 1 + brsRows true (qre.map Prod.fst) + 1 + stsRows t ≤ 16777216 by omega)]
            exact ⟨.val (.int (qre.length : Nat)), .val (.tuple (stsD t)), by simp [Mark.d]⟩
        · subst hρ
          have e5 : (M ++ brsMarks hs (row + stsRows pre + 1) true x.parts).length = stsRows pre + 1 + brsRows true x.parts := by rw [List.length_append, lM, brsMarks_len]
          have e6 : ((row : Nat) : Int) + ((stsRows pre + 1 + brsRows true x.parts : Nat) : Int) = ((row + stsRows pre + 1 + brsRows true x.parts : Nat) : Int) := by omega
          simp only [List.zipIdx_map_fst, cmpl, exs, ex, ev, evs, evPart, evIt, sealE, sealIt, rd_val, rd_own, rd_succ, Lr.add_int, Lr.sub_int, bin_add, bin_sub, bin_mul, bin_fdiv, bin_mod, cmp_eq, cmp_ne, cmp_lt, cmp_le, cmp_gt, cmp_ge, cmp_in, cmp_notin, cmp_isN, cmp_isnotN, Lr.eq_int, Lr.ne_int, Lr.len_lst, Lr.len_tup, tuple_lst, tuple_tup, list_lst, list_tup, int_bl, bi_len, bi_tuple, bi_list, bi_int, bi_join, bi_any, bi_all, bi_index, bi_sorted, bi_min1, bi_max1, bi_max2, bi_abs, bi_sum, bi_split, idx_lst, idx_tup, Lr.sl_lst, Lr.sl_tup, and_t', and_f, or_f', or_t, blo, chain_f, chain_t, not_b, neg_i, cond_t, cond_f, rng1, rng2, list_of, part_i, seq_nx, seq_ret, seq_brk, seq_cont, if_t, if_f, own_some, own_val, own_non, sv_some, sv_none, bind_name, start0, Option.bind_some, Option.bind_none, Option.map_some, Option.map_none, List.map_cons, List.map_nil, List.length_cons, List.length_nil, List.replicate, List.cons_append, List.nil_append, List.getElem?_cons_zero, List.getElem?_cons_succ, List.set_cons_zero, List.set_cons_succ, Nat.reduceAdd, Nat.reduceSub, if_true, if_false, Bool.false_eq_true, reduceIte, decide_true, decide_false, Bool.not_true, Bool.not_false, tup_d, lst_d, sz0, sz1, sz2, sz3, sz4, sz5, bnd2, bnd2l, bnd3, set2, set3, abs_i, max2_i, lt_i, gt_i, le_i, ge_i, for_nil, sat_some, lo_nx, lo_cont, lo_brk, lo_ret, List.length_map, e5, e6, sz_ok (show stsRows pre + 1 + brsRows true x.parts + 1 ≤ 16777216 by omega)]
          refine ⟨p, .val (.int (row + stsRows pre : Nat)), r, .val x.d, ?_⟩
          rw [marks_parts hs hxt, hM]
          simp [Mark.d]
    · subst hρ
      simp only [cmpl, exs, ex, ev, evs, evPart, evIt, sealE, sealIt, rd_val, rd_own, rd_succ, Lr.add_int, Lr.sub_int, bin_add, bin_sub, bin_mul, bin_fdiv, bin_mod, cmp_eq, cmp_ne, cmp_lt, cmp_le, cmp_gt, cmp_ge, cmp_in, cmp_notin, cmp_isN, cmp_isnotN, Lr.eq_int, Lr.ne_int, Lr.len_lst, Lr.len_tup, tuple_lst, tuple_tup, list_lst, list_tup, int_bl, bi_len, bi_tuple, bi_list, bi_int, bi_join, bi_any, bi_all, bi_index, bi_sorted, bi_min1, bi_max1, bi_max2, bi_abs, bi_sum, bi_split, idx_lst, idx_tup, Lr.sl_lst, Lr.sl_tup, and_t', and_f, or_f', or_t, blo, chain_f, chain_t, not_b, neg_i, cond_t, cond_f, rng1, rng2, list_of, part_i, seq_nx, seq_ret, seq_brk, seq_cont, if_t, if_f, own_some, own_val, own_non, sv_some, sv_none, bind_name, start0, Option.bind_some, Option.bind_none, Option.map_some, Option.map_none, List.map_cons, List.map_nil, List.length_cons, List.length_nil, List.replicate, List.cons_append, List.nil_append, List.getElem?_cons_zero, List.getElem?_cons_succ, List.set_cons_zero, List.set_cons_succ, Nat.reduceAdd, Nat.reduceSub, if_true, if_false, Bool.false_eq_true, reduceIte, decide_true, decide_false, Bool.not_true, Bool.not_false, tup_d, lst_d, sz0, sz1, sz2, sz3, sz4, sz5, bnd2, bnd2l, bnd3, set2, set3, abs_i, max2_i, lt_i, gt_i, le_i, ge_i, for_nil, sat_some, lo_nx, lo_cont, lo_brk, lo_ret]
theorem laid_ok (G : Lay0 T) {hs : List Str} (hh : hs.length ≤ 100) {n k : Nat} {s : List Stp} (hd : stsDeep s ≤ n) (hk : n + 5 ≤ k) (hz : stsSize s ≤ 1000000) (hl : LetsIn hs (stsLets s)) :
    callAt T g fu k "laid" [talkD hs s] = some (.tuple ((stsMarks hs 0 s).map Mark.d)) := by
  obtain ⟨k, rfl⟩ := lvl (show 1 ≤ k by omega)
  refine call_at G.laid rfl ?_
  have := marks_of_ok (g := g) (fu := fu) G hh n k 0 s hd (by omega) hz hl
  have this : callAt T g fu k "marks_of" [.tuple (stsD s), hsD hs, .int 0] = some (.list ((stsMarks hs 0 s).map Mark.d)) := this
  simp only [d_laid, talkD, cmpl, exs, ex, ev, evs, evPart, evIt, sealE, sealIt, rd_val, rd_own, rd_succ, Lr.add_int, Lr.sub_int, bin_add, bin_sub, bin_mul, bin_fdiv, bin_mod, cmp_eq, cmp_ne, cmp_lt, cmp_le, cmp_gt, cmp_ge, cmp_in, cmp_notin, cmp_isN, cmp_isnotN, Lr.eq_int, Lr.ne_int, Lr.len_lst, Lr.len_tup, tuple_lst, tuple_tup, list_lst, list_tup, int_bl, bi_len, bi_tuple, bi_list, bi_int, bi_join, bi_any, bi_all, bi_index, bi_sorted, bi_min1, bi_max1, bi_max2, bi_abs, bi_sum, bi_split, idx_lst, idx_tup, Lr.sl_lst, Lr.sl_tup, and_t', and_f, or_f', or_t, blo, chain_f, chain_t, not_b, neg_i, cond_t, cond_f, rng1, rng2, list_of, part_i, seq_nx, seq_ret, seq_brk, seq_cont, if_t, if_f, own_some, own_val, own_non, sv_some, sv_none, bind_name, start0, Option.bind_some, Option.bind_none, Option.map_some, Option.map_none, List.map_cons, List.map_nil, List.length_cons, List.length_nil, List.replicate, List.cons_append, List.nil_append, List.getElem?_cons_zero, List.getElem?_cons_succ, List.set_cons_zero, List.set_cons_succ, Nat.reduceAdd, Nat.reduceSub, if_true, if_false, Bool.false_eq_true, reduceIte, decide_true, decide_false, Bool.not_true, Bool.not_false, tup_d, lst_d, sz0, sz1, sz2, sz3, sz4, sz5, bnd2, bnd2l, bnd3, set2, set3, abs_i, max2_i, lt_i, gt_i, le_i, ge_i, for_nil, sat_some, lo_nx, lo_cont, lo_brk, lo_ret, at0, at1, this]
theorem height_ok (G : Lay0 T) {hs : List Str} (hh : hs.length ≤ 100) {n k : Nat} {s : List Stp} (hd : stsDeep s ≤ n) (hk : n + 6 ≤ k) (hz : stsSize s ≤ 1000000) (hl : LetsIn hs (stsLets s)) :
    callAt T g fu k "height" [talkD hs s] = some (.int (stsRows s : Nat)) := by
  obtain ⟨k, rfl⟩ := lvl (show 1 ≤ k by omega)
  refine call_at G.height rfl ?_
  have := laid_ok (g := g) (fu := fu) G hh hd (k := k) (by omega) hz hl
  simp only [d_height, cmpl, exs, ex, ev, evs, evPart, evIt, sealE, sealIt, rd_val, rd_own, rd_succ, Lr.add_int, Lr.sub_int, bin_add, bin_sub, bin_mul, bin_fdiv, bin_mod, cmp_eq, cmp_ne, cmp_lt, cmp_le, cmp_gt, cmp_ge, cmp_in, cmp_notin, cmp_isN, cmp_isnotN, Lr.eq_int, Lr.ne_int, Lr.len_lst, Lr.len_tup, tuple_lst, tuple_tup, list_lst, list_tup, int_bl, bi_len, bi_tuple, bi_list, bi_int, bi_join, bi_any, bi_all, bi_index, bi_sorted, bi_min1, bi_max1, bi_max2, bi_abs, bi_sum, bi_split, idx_lst, idx_tup, Lr.sl_lst, Lr.sl_tup, and_t', and_f, or_f', or_t, blo, chain_f, chain_t, not_b, neg_i, cond_t, cond_f, rng1, rng2, list_of, part_i, seq_nx, seq_ret, seq_brk, seq_cont, if_t, if_f, own_some, own_val, own_non, sv_some, sv_none, bind_name, start0, Option.bind_some, Option.bind_none, Option.map_some, Option.map_none, List.map_cons, List.map_nil, List.length_cons, List.length_nil, List.replicate, List.cons_append, List.nil_append, List.getElem?_cons_zero, List.getElem?_cons_succ, List.set_cons_zero, List.set_cons_succ, Nat.reduceAdd, Nat.reduceSub, if_true, if_false, Bool.false_eq_true, reduceIte, decide_true, decide_false, Bool.not_true, Bool.not_false, tup_d, lst_d, sz0, sz1, sz2, sz3, sz4, sz5, bnd2, bnd2l, bnd3, set2, set3, abs_i, max2_i, lt_i, gt_i, le_i, ge_i, for_nil, sat_some, lo_nx, lo_cont, lo_brk, lo_ret, this, List.length_map, stsMarks_len]
/-! ### far -/
def wayOf (hs : List Str) (l : Letter) : Int := if laneOf hs l.a - laneOf hs l.b < 0 then -(laneOf hs l.a - laneOf hs l.b) else laneOf hs l.a - laneOf hs l.b
def farV (hs : List Str) (ls : List Letter) : Int := (ls.map (wayOf hs)).sum
theorem far_by_ok (hP : T "parts_of" = some d_parts_of) (hL : T "letters_in" = some d_letters_in) (hF : T "far_by" = some d_far_by) {hs : List Str} {n k : Nat} {s : List Stp} (hd : stsDeep s ≤ n) (hk : n + 3 ≤ k) (hz : stsSize s ≤ 1000000) (hl : LetsIn hs (stsLets s)) :
    callAt T g fu k "far_by" [hsD hs, .tuple (stsD s)] = some (.int (farV hs (stsLets s))) := by
  obtain ⟨k, rfl⟩ := lvl (show 1 ≤ k by omega)
  refine call_at hF rfl ?_
  have h1 := letters_in_ok (g := g) (fu := fu) hP hL n k s hd (by omega) hz
  have h2 := stsLets_size s
  simp only [d_far_by, cmpl, exs, ex, ev, evs, evPart, evIt, sealE, sealIt, rd_val, rd_own, rd_succ, Lr.add_int, Lr.sub_int, bin_add, bin_sub, bin_mul, bin_fdiv, bin_mod, cmp_eq, cmp_ne, cmp_lt, cmp_le, cmp_gt, cmp_ge, cmp_in, cmp_notin, cmp_isN, cmp_isnotN, Lr.eq_int, Lr.ne_int, Lr.len_lst, Lr.len_tup, tuple_lst, tuple_tup, list_lst, list_tup, int_bl, bi_len, bi_tuple, bi_list, bi_int, bi_join, bi_any, bi_all, bi_index, bi_sorted, bi_min1, bi_max1, bi_max2, bi_abs, bi_sum, bi_split, idx_lst, idx_tup, Lr.sl_lst, Lr.sl_tup, and_t', and_f, or_f', or_t, blo, chain_f, chain_t, not_b, neg_i, cond_t, cond_f, rng1, rng2, list_of, part_i, seq_nx, seq_ret, seq_brk, seq_cont, if_t, if_f, own_some, own_val, own_non, sv_some, sv_none, bind_name, start0, Option.bind_some, Option.bind_none, Option.map_some, Option.map_none, List.map_cons, List.map_nil, List.length_cons, List.length_nil, List.replicate, List.cons_append, List.nil_append, List.getElem?_cons_zero, List.getElem?_cons_succ, List.set_cons_zero, List.set_cons_succ, Nat.reduceAdd, Nat.reduceSub, if_true, if_false, Bool.false_eq_true, reduceIte, decide_true, decide_false, Bool.not_true, Bool.not_false, tup_d, lst_d, sz0, sz1, sz2, sz3, sz4, sz5, bnd2, bnd2l, bnd3, set2, set3, abs_i, max2_i, lt_i, gt_i, le_i, ge_i, for_nil, sat_some, lo_nx, lo_cont, lo_brk, lo_ret, h1, lets_seq (show (stsLets s).length ≤ 1000000 by omega)]
  rw [lcRun_map (r := fun l => .int (wayOf hs l)) fun l hlm => by
    obtain ⟨q1, q2⟩ := hl l hlm
    simp only [Letter.d, cmpl, exs, ex, ev, evs, evPart, evIt, sealE, sealIt, rd_val, rd_own, rd_succ, Lr.add_int, Lr.sub_int, bin_add, bin_sub, bin_mul, bin_fdiv, bin_mod, cmp_eq, cmp_ne, cmp_lt, cmp_le, cmp_gt, cmp_ge, cmp_in, cmp_notin, cmp_isN, cmp_isnotN, Lr.eq_int, Lr.ne_int, Lr.len_lst, Lr.len_tup, tuple_lst, tuple_tup, list_lst, list_tup, int_bl, bi_len, bi_tuple, bi_list, bi_int, bi_join, bi_any, bi_all, bi_index, bi_sorted, bi_min1, bi_max1, bi_max2, bi_abs, bi_sum, bi_split, idx_lst, idx_tup, Lr.sl_lst, Lr.sl_tup, and_t', and_f, or_f', or_t, blo, chain_f, chain_t, not_b, neg_i, cond_t, cond_f, rng1, rng2, list_of, part_i, seq_nx, seq_ret, seq_brk, seq_cont, if_t, if_f, own_some, own_val, own_non, sv_some, sv_none, bind_name, start0, Option.bind_some, Option.bind_none, Option.map_some, Option.map_none, List.map_cons, List.map_nil, List.length_cons, List.length_nil, List.replicate, List.cons_append, List.nil_append, List.getElem?_cons_zero, List.getElem?_cons_succ, List.set_cons_zero, List.set_cons_succ, Nat.reduceAdd, Nat.reduceSub, if_true, if_false, Bool.false_eq_true, reduceIte, decide_true, decide_false, Bool.not_true, Bool.not_false, tup_d, lst_d, sz0, sz1, sz2, sz3, sz4, sz5, bnd2, bnd2l, bnd3, set2, set3, abs_i, max2_i, lt_i, gt_i, le_i, ge_i, for_nil, sat_some, lo_nx, lo_cont, lo_brk, lo_ret, index_hs q1, index_hs q2]
    rfl]
  simp only [cmpl, exs, ex, ev, evs, evPart, evIt, sealE, sealIt, rd_val, rd_own, rd_succ, Lr.add_int, Lr.sub_int, bin_add, bin_sub, bin_mul, bin_fdiv, bin_mod, cmp_eq, cmp_ne, cmp_lt, cmp_le, cmp_gt, cmp_ge, cmp_in, cmp_notin, cmp_isN, cmp_isnotN, Lr.eq_int, Lr.ne_int, Lr.len_lst, Lr.len_tup, tuple_lst, tuple_tup, list_lst, list_tup, int_bl, bi_len, bi_tuple, bi_list, bi_int, bi_join, bi_any, bi_all, bi_index, bi_sorted, bi_min1, bi_max1, bi_max2, bi_abs, bi_sum, bi_split, idx_lst, idx_tup, Lr.sl_lst, Lr.sl_tup, and_t', and_f, or_f', or_t, blo, chain_f, chain_t, not_b, neg_i, cond_t, cond_f, rng1, rng2, list_of, part_i, seq_nx, seq_ret, seq_brk, seq_cont, if_t, if_f, own_some, own_val, own_non, sv_some, sv_none, bind_name, start0, Option.bind_some, Option.bind_none, Option.map_some, Option.map_none, List.map_cons, List.map_nil, List.length_cons, List.length_nil, List.replicate, List.cons_append, List.nil_append, List.getElem?_cons_zero, List.getElem?_cons_succ, List.set_cons_zero, List.set_cons_succ, Nat.reduceAdd, Nat.reduceSub, if_true, if_false, Bool.false_eq_true, reduceIte, decide_true, decide_false, Bool.not_true, Bool.not_false, tup_d, lst_d, sz0, sz1, sz2, sz3, sz4, sz5, bnd2, bnd2l, bnd3, set2, set3, abs_i, max2_i, lt_i, gt_i, le_i, ge_i, for_nil, sat_some, lo_nx, lo_cont, lo_brk, lo_ret, sum_ints]
  rfl
theorem far_ok (hP : T "parts_of" = some d_parts_of) (hL : T "letters_in" = some d_letters_in) (hF : T "far_by" = some d_far_by) (hG : T "far" = some d_far) {hs : List Str} {n k : Nat} {s : List Stp} (hd : stsDeep s ≤ n) (hk : n + 4 ≤ k) (hz : stsSize s ≤ 1000000) (hl : LetsIn hs (stsLets s)) :
    callAt T g fu k "far" [talkD hs s] = some (.int (farV hs (stsLets s))) := by
  obtain ⟨k, rfl⟩ := lvl (show 1 ≤ k by omega)
  refine call_at hG rfl ?_
  have := far_by_ok (g := g) (fu := fu) hP hL hF hd (k := k) (by omega) hz hl
  simp only [d_far, talkD, cmpl, exs, ex, ev, evs, evPart, evIt, sealE, sealIt, rd_val, rd_own, rd_succ, Lr.add_int, Lr.sub_int, bin_add, bin_sub, bin_mul, bin_fdiv, bin_mod, cmp_eq, cmp_ne, cmp_lt, cmp_le, cmp_gt, cmp_ge, cmp_in, cmp_notin, cmp_isN, cmp_isnotN, Lr.eq_int, Lr.ne_int, Lr.len_lst, Lr.len_tup, tuple_lst, tuple_tup, list_lst, list_tup, int_bl, bi_len, bi_tuple, bi_list, bi_int, bi_join, bi_any, bi_all, bi_index, bi_sorted, bi_min1, bi_max1, bi_max2, bi_abs, bi_sum, bi_split, idx_lst, idx_tup, Lr.sl_lst, Lr.sl_tup, and_t', and_f, or_f', or_t, blo, chain_f, chain_t, not_b, neg_i, cond_t, cond_f, rng1, rng2, list_of, part_i, seq_nx, seq_ret, seq_brk, seq_cont, if_t, if_f, own_some, own_val, own_non, sv_some, sv_none, bind_name, start0, Option.bind_some, Option.bind_none, Option.map_some, Option.map_none, List.map_cons, List.map_nil, List.length_cons, List.length_nil, List.replicate, List.cons_append, List.nil_append, List.getElem?_cons_zero, List.getElem?_cons_succ, List.set_cons_zero, List.set_cons_succ, Nat.reduceAdd, Nat.reduceSub, if_true, if_false, Bool.false_eq_true, reduceIte, decide_true, decide_false, Bool.not_true, Bool.not_false, tup_d, lst_d, sz0, sz1, sz2, sz3, sz4, sz5, bnd2, bnd2l, bnd3, set2, set3, abs_i, max2_i, lt_i, gt_i, le_i, ge_i, for_nil, sat_some, lo_nx, lo_cont, lo_brk, lo_ret, at0, at1, this]
end
end Lr
namespace Lr
open PySem PySem.Spec PyProof.Rows L2
/-! ### what is laid is told back -/
theorem at_app {A : List PyData} {x : PyData} {r : List PyData} : idxEv (.tuple (A ++ x :: r)) (.int (A.length : Nat)) = some x := by
  show atI _ _ = _
  exact atI_nat (by simp)
theorem word_at {A : List PyData} {w : Str} {q r : List PyData} : wordP (A ++ .tuple (.str w :: q) :: r) A.length = some (.str w) := by
  unfold wordP
  rw [if_neg (by simp), at_app]
  exact ax0
theorem word_end {A : List PyData} : wordP A A.length = some (.str "") := by
  unfold wordP
  rw [if_pos rfl]
theorem in_letter : cmpEv .isin (.str "letter") lhW = some true := by decide +kernel
theorem in_head : cmpEv .isin (.str "head") lhW = some true := by decide +kernel
theorem in_line : cmpEv .isin (.str "line") lhW = some false := by decide +kernel
theorem in_foot : cmpEv .isin (.str "foot") lhW = some false := by decide +kernel
theorem in_none : cmpEv .isin (.str "") lhW = some false := by decide +kernel
theorem ll_eq : cmpEv .eq (.str "line") (.str "line") = some true := by decide +kernel
theorem fl_eq : cmpEv .eq (.str "foot") (.str "line") = some false := by decide +kernel
theorem ff_ne : cmpEv .ne (.str "foot") (.str "foot") = some false := by decide +kernel
theorem le_eq : cmpEv .eq (.str "letter") (.str "letter") = some true := by decide +kernel
theorem he_eq : cmpEv .eq (.str "head") (.str "letter") = some false := by decide +kernel
theorem ch_eq : cmpEv .eq (.str "choice") (.str "choice") = some true := by decide +kernel
theorem rd_eq : cmpEv .eq (.str "round") (.str "choice") = some false := by decide +kernel
theorem bo_eq : cmpEv .eq (.str "both") (.str "choice") = some false := by decide +kernel
/-- where a row of steps ends -/
def Stop (B : List PyData) : Prop := B = [] ∨ ∃ (w : Str) (r B' : List PyData), B = .tuple (.str w :: r) :: B' ∧ (w = "line" ∨ w = "foot")
theorem stop_in {A B : List PyData} (h : Stop B) : ∃ w : Str, wordP (A ++ B) A.length = some (.str w) ∧ cmpEv .isin (.str w) lhW = some false := by
  rcases h with rfl | ⟨w, r, B', rfl, h⟩
  · rw [List.append_nil]
    exact ⟨"", word_end, in_none⟩
  · refine ⟨w, word_at, ?_⟩
    rcases h with rfl | rfl
    · exact in_line
    · exact in_foot
theorem hand_ok {hs : List Str} {a : Str} (h : a ∈ hs) : handP (hs.map .str) (.int (laneOf hs a)) = some (some (.str a)) := by
  have h1 : hs.idxOf a < hs.length := List.idxOf_lt_length_iff.mpr h
  show (if 0 ≤ laneOf hs a ∧ laneOf hs a < ((hs.map PyData.str).length : Nat) then (idxEv (.tuple (hs.map .str)) (.int (laneOf hs a))).map some else some none) = _
  unfold laneOf
  rw [if_pos ⟨by omega, by rw [List.length_map]; omega⟩]
  have : idxEv (.tuple (hs.map .str)) (.int (hs.idxOf a : Nat)) = some (.str a) := by
    show atI _ _ = _
    refine atI_nat ?_
    rw [List.getElem?_map, List.getElem?_eq_getElem h1, List.getElem_idxOf]
    rfl
  rw [this]
  rfl
theorem nx_some {α β : Type} {a : α} {f : α → Option (Option β)} : nxR (some a) f = f a := rfl
theorem loop_ok {hs : List Str} {ms : List PyData} {f : Nat → Rs} (hf : ∀ (x : Stp) (row : Nat) (A B : List PyData), ms = A ++ ((x.marks hs row).map Mark.d ++ B) → True → f A.length = some (some (x.d, A.length + x.rows))) : True := trivial
section
variable {hs : List Str} {ms : List PyData} {fu : Nat}
/-- one step -/
def R1 (hs : List Str) (ms : List PyData) (fu n k : Nat) : Prop := ∀ (x : Stp) (row : Nat) (A B : List PyData), ms = A ++ ((x.marks hs row).map Mark.d ++ B) → x.ok hs n → MP (hs.map .str) ms fu k false A.length = some (some (x.d, A.length + x.rows))
/-- .. and many -/
def RS (hs : List Str) (ms : List PyData) (fu n k : Nat) : Prop := ∀ (s : List Stp) (row : Nat) (A B : List PyData), ms = A ++ ((stsMarks hs row s).map Mark.d ++ B) → Stop B → s.length < fu → s.length ≤ 1000 → stsOk hs n s → MP (hs.map .str) ms fu k true A.length = some (some (.tuple (stsD s), A.length + stsRows s))
theorem marks_first {x : Stp} {row : Nat} : ∃ (w : Str) (q r : List PyData), (x.marks hs row).map Mark.d = .tuple (.str w :: q) :: r ∧ cmpEv .isin (.str w) lhW = some true := by
  cases h : x.isTell with
  | true =>
    cases x with
    | tell a b w => exact ⟨"letter", _, _, rfl, in_letter⟩
    | _ => cases h
  | false =>
    rw [marks_parts hs h]
    exact ⟨"head", _, _, rfl, in_head⟩
theorem rs_of {n k : Nat} (h : R1 hs ms fu n k) : RS hs ms fu n (k + 1) := by
  intro s row A B hm hB hl hl2 ho
  show loopS ms (fun i => MP (hs.map .str) ms fu k false i) fu A.length [] = _
  have key : ∀ (s : List Stp) (row m : Nat) (A acc : List PyData), ms = A ++ ((stsMarks hs row s).map Mark.d ++ B) → s.length < m → acc.length + s.length ≤ 1000 → stsOk hs n s →
      loopS ms (fun i => MP (hs.map .str) ms fu k false i) m A.length acc = some (some (.tuple (acc ++ stsD s), A.length + stsRows s)) := by
    intro s
    induction s with
    | nil =>
      intro row m A acc hm hl _ _
      cases m with
      | zero => exact absurd hl (by simp)
      | succ m =>
        unfold loopS
        have hm : ms = A ++ B := hm
        obtain ⟨w, h1, h2⟩ := stop_in (A := A) hB
        rw [hm, h1, Option.bind_some, h2, Option.bind_some, if_neg Bool.false_ne_true]
        simp [stsD, stsRows]
    | cons x s ih =>
      intro row m A acc hm hl hz ho
      cases m with
      | zero => exact absurd hl (by simp)
      | succ m =>
        rw [List.length_cons] at hl hz
        unfold stsOk at ho
        rw [stsMarks, List.map_append, List.append_assoc] at hm
        obtain ⟨w, q, r, e1, e2⟩ := marks_first (hs := hs) (x := x) (row := row)
        have hw : wordP ms A.length = some (.str w) := by rw [hm, e1]; exact word_at
        have hx := h x row A _ hm ho.1
        unfold loopS
        rw [hw, Option.bind_some, e2, Option.bind_some, if_pos rfl]
        show ((MP (hs.map .str) ms fu k false A.length).bind fun r => nxR r fun q => if szOk (acc.length + 1) = true then loopS ms (fun i => MP (hs.map .str) ms fu k false i) m q.2 (acc ++ [q.1]) else none) = _
        rw [hx, Option.bind_some, nx_some, if_pos (sz_ok (by omega))]
        show loopS ms (fun i => MP (hs.map .str) ms fu k false i) m (A.length + x.rows) (acc ++ [x.d]) = _
        have e3 : A.length + x.rows = (A ++ (x.marks hs row).map Mark.d).length := by rw [List.length_append, List.length_map, marks_len]
        rw [e3, ih (row + x.rows) m (A ++ (x.marks hs row).map Mark.d) (acc ++ [x.d]) (by rw [hm]; simp) (by omega) (by rw [List.length_append, List.length_singleton]; omega) ho.2, ← e3]
        simp [stsD, stsRows, Nat.add_assoc]
  have := key s row fu A [] hm hl (by simpa using hl2) ho
  simpa using this
theorem tell_rt {n k : Nat} {a b w : Str} {row : Nat} {A B : List PyData} (hm : ms = A ++ (((Stp.tell a b w).marks hs row).map Mark.d ++ B)) (ho : (Stp.tell a b w).ok hs n) : MP (hs.map .str) ms fu (k + 1) false A.length = some (some ((Stp.tell a b w).d, A.length + (Stp.tell a b w).rows)) := by
  obtain ⟨h1, h2, h3⟩ := ok_tell ho
  have hm : ms = A ++ .tuple [.str "letter", .int row, .int (laneOf hs a), .int (laneOf hs b), .str w] :: B := hm
  show ((idxEv (.tuple ms) (.int (A.length : Nat))).bind fun mark => (idxEv mark (.int 0)).bind fun w => (cmpEv .eq w (.str "letter")).bind fun b => if b then tellP (hs.map .str) mark A.length
      else (MP (hs.map .str) ms fu k true (A.length + 1)).bind fun r => nxR r fun q => (loopL ms (MP (hs.map .str) ms fu k true) fu q.2 [q.1]).bind fun r2 => nxR r2 fun q2 => shutP ms mark q2.1 q2.2) = _
  have i0 : idxEv (.tuple [.str "letter", .int row, .int (laneOf hs a), .int (laneOf hs b), .str w]) (.int 0) = some (.str "letter") := ax0
  have i2 : idxEv (.tuple [.str "letter", .int row, .int (laneOf hs a), .int (laneOf hs b), .str w]) (.int 2) = some (.int (laneOf hs a)) := ax2
  have i3 : idxEv (.tuple [.str "letter", .int row, .int (laneOf hs a), .int (laneOf hs b), .str w]) (.int 3) = some (.int (laneOf hs b)) := ax3
  have i4 : idxEv (.tuple [.str "letter", .int row, .int (laneOf hs a), .int (laneOf hs b), .str w]) (.int 4) = some (.str w) := atI_nat (j := 4) rfl
  rw [hm, at_app, Option.bind_some, i0, Option.bind_some, le_eq, Option.bind_some, if_pos rfl]
  unfold tellP
  rw [i2, Option.bind_some, hand_ok h1, Option.bind_some, nx_some, i3, Option.bind_some, hand_ok h2, Option.bind_some, nx_some, i4]
  rfl
theorem lines_ok {n k : Nat} (h : RS hs ms fu n k) {kr : Nat} {B : List PyData} : ∀ (ps : List (List Stp)) (row m : Nat) (A acc : List PyData), ms = A ++ ((brsMarks hs row false ps).map Mark.d ++ .tuple [.str "foot", .int kr] :: B) → ps.length < m → acc.length + ps.length ≤ 1000 → (∀ p ∈ ps, p.length < fu ∧ p.length ≤ 1000 ∧ stsOk hs n p) →
    loopL ms (MP (hs.map .str) ms fu k true) m A.length acc = some (some (acc ++ brsD ps, A.length + brsRows false ps))
  | [], row, m, A, acc, hm, hl, hz, hp => by
    cases m with
    | zero => exact absurd hl (by simp)
    | succ m =>
      unfold loopL
      have hm : ms = A ++ .tuple [.str "foot", .int kr] :: B := hm
      have hw : wordP ms A.length = some (.str "foot") := by rw [hm]; exact word_at
      rw [hw, Option.bind_some, fl_eq, Option.bind_some, if_neg Bool.false_ne_true]
      simp [brsD, brsRows]
  | p :: ps, row, m, A, acc, hm, hl, hz, hp => by
    cases m with
    | zero => exact absurd hl (by simp)
    | succ m =>
      rw [List.length_cons] at hl hz
      rw [brsMarks, List.map_cons, List.map_append, List.cons_append, List.append_assoc] at hm
      have hw : wordP ms A.length = some (.str "line") := by rw [hm]; exact word_at
      have hi : idxEv (.tuple ms) (.int (A.length : Nat)) = some (Mark.line row).d := by rw [hm]; exact at_app
      obtain ⟨h1, h2, h3⟩ := hp p List.mem_cons_self
      have hm2 : ms = (A ++ [(Mark.line row).d]) ++ ((stsMarks hs (row + 1) p).map Mark.d ++ ((brsMarks hs (row + 1 + stsRows p) false ps).map Mark.d ++ .tuple [.str "foot", .int kr] :: B)) := by rw [hm]; simp
      have hst : Stop ((brsMarks hs (row + 1 + stsRows p) false ps).map Mark.d ++ .tuple [.str "foot", .int kr] :: B) := by
        cases ps with
        | nil => exact .inr ⟨"foot", _, _, rfl, .inr rfl⟩
        | cons p' ps' => rw [brsMarks]; exact .inr ⟨"line", _, _, rfl, .inl rfl⟩
      have hx := h p (row + 1) (A ++ [(Mark.line row).d]) _ hm2 hst h1 h2 h3
      have el : (A ++ [(Mark.line row).d]).length = A.length + 1 := by simp
      rw [el] at hx
      unfold loopL
      rw [hw, Option.bind_some, ll_eq, Option.bind_some, if_pos rfl, hi, Option.bind_some, hx, Option.bind_some, nx_some, if_pos (sz_ok (by omega))]
      show loopL ms (MP (hs.map .str) ms fu k true) m (A.length + 1 + stsRows p) (acc ++ [.tuple (stsD p)]) = _
      have e3 : A.length + 1 + stsRows p = ((A ++ [(Mark.line row).d]) ++ (stsMarks hs (row + 1) p).map Mark.d).length := by rw [List.length_append, List.length_map, stsMarks_len, el]
      have hm3 : ms = ((A ++ [(Mark.line row).d]) ++ (stsMarks hs (row + 1) p).map Mark.d) ++ ((brsMarks hs (row + 1 + stsRows p) false ps).map Mark.d ++ .tuple [.str "foot", .int kr] :: B) := by rw [hm2]; simp only [List.append_assoc]
      have := lines_ok h (kr := kr) (B := B) ps (row + 1 + stsRows p) m ((A ++ [(Mark.line row).d]) ++ (stsMarks hs (row + 1) p).map Mark.d) (acc ++ [.tuple (stsD p)]) hm3 (by omega) (by rw [List.length_append, List.length_singleton]; omega) (fun q hq => hp q (List.mem_cons_of_mem _ hq))
      rw [← e3] at this
      rw [this]
      simp only [brsD, brsRows, List.append_assoc, List.cons_append, List.nil_append]
      rw [show A.length + 1 + stsRows p + brsRows false ps = A.length + (stsRows p + brsRows false ps + 1) by omega]
theorem parts_pos {n : Nat} {x : Stp} (h : x.isTell = false) (ho : x.ok hs n) : ∃ p ps, x.parts = p :: ps := by
  cases x with
  | tell a b w => cases h
  | round s => exact ⟨s, [], rfl⟩
  | both s t => exact ⟨s, [t], rfl⟩
  | choice bs =>
    cases n with
    | zero => unfold Stp.ok at ho; exact ho.elim
    | succ n =>
      unfold Stp.ok at ho
      cases bs with
      | nil => exact absurd ho.1 (by simp)
      | cons p ps => exact ⟨p, ps, rfl⟩
theorem frame_d {j : Nat} {x : Stp} {p : List Stp} {ps : List (List Stp)} (h : x.isTell = false) (e : x.parts = p :: ps) (hl : ps.length ≤ 10) : ((cmpEv .eq (.str x.kind) (.str "choice")).bind fun c => if c then some (some (PyData.tuple [.str "choice", .tuple (brsD (p :: ps))], j + 1)) else (addEv (.tuple [.str x.kind]) (.tuple (brsD (p :: ps)))).bind fun t => some (some (t, j + 1))) = some (some (x.d, j + 1)) := by
  cases x with
  | tell a b w => cases h
  | choice bs =>
    have e : bs = p :: ps := e
    rw [show cmpEv .eq (.str (Stp.choice bs).kind) (.str "choice") = _ from ch_eq, Option.bind_some, ← e]
    rfl
  | round s =>
    have e : [s] = p :: ps := e
    cases e
    rw [show cmpEv .eq (.str (Stp.round p).kind) (.str "choice") = _ from rd_eq, Option.bind_some, if_neg Bool.false_ne_true, addT (by simp [brsD])]
    rfl
  | both s t =>
    have e : [s, t] = p :: ps := e
    cases e
    rw [show cmpEv .eq (.str (Stp.both p t).kind) (.str "choice") = _ from bo_eq, Option.bind_some, if_neg Bool.false_ne_true, addT (by simp [brsD])]
    rfl
theorem frame_rt {n k : Nat} (h : RS hs ms fu n k) (hfu : 10 < fu) {x : Stp} (hx : x.isTell = false) (ho : x.ok hs (n + 1)) {row : Nat} {A B : List PyData} (hm : ms = A ++ ((x.marks hs row).map Mark.d ++ B)) : MP (hs.map .str) ms fu (k + 1) false A.length = some (some (x.d, A.length + x.rows)) := by
  obtain ⟨p, ps, ep⟩ := parts_pos hx ho
  have hok := ok_parts ho
  have hn := ok_nparts ho
  rw [ep] at hok hn
  rw [List.length_cons] at hn
  have hm0 := hm
  rw [marks_parts hs hx, ep, brsMarks] at hm
  obtain ⟨hd, ehd⟩ : ∃ hd, hd = (Mark.head row x.kind (frame hs x.lets).1 (frame hs x.lets).2).d := ⟨_, rfl⟩
  obtain ⟨kr, ekr⟩ : ∃ kr : Nat, kr = row + 1 + brsRows true (p :: ps) := ⟨_, rfl⟩
  have hm : ms = A ++ hd :: ((stsMarks hs (row + 1) p).map Mark.d ++ ((brsMarks hs (row + 1 + stsRows p) false ps).map Mark.d ++ .tuple [.str "foot", .int kr] :: B)) := by
    rw [hm, ehd, ekr]
    simp [Mark.d]
  have hst : Stop ((brsMarks hs (row + 1 + stsRows p) false ps).map Mark.d ++ .tuple [.str "foot", .int kr] :: B) := by
    cases ps with
    | nil => exact .inr ⟨"foot", _, _, rfl, .inr rfl⟩
    | cons p' ps' => rw [brsMarks]; exact .inr ⟨"line", _, _, rfl, .inl rfl⟩
  have hm1 : ms = (A ++ [hd]) ++ ((stsMarks hs (row + 1) p).map Mark.d ++ ((brsMarks hs (row + 1 + stsRows p) false ps).map Mark.d ++ .tuple [.str "foot", .int kr] :: B)) := by rw [hm]; simp
  have h1 := h p (row + 1) (A ++ [hd]) _ hm1 hst (by have := (hok p List.mem_cons_self).1; omega) (by have := (hok p List.mem_cons_self).1; omega) (hok p List.mem_cons_self).2
  have el : (A ++ [hd]).length = A.length + 1 := by simp
  rw [el] at h1
  have hm2 : ms = ((A ++ [hd]) ++ (stsMarks hs (row + 1) p).map Mark.d) ++ ((brsMarks hs (row + 1 + stsRows p) false ps).map Mark.d ++ .tuple [.str "foot", .int kr] :: B) := by rw [hm1]; simp
  have e3 : A.length + 1 + stsRows p = ((A ++ [hd]) ++ (stsMarks hs (row + 1) p).map Mark.d).length := by rw [List.length_append, List.length_map, stsMarks_len, el]
  have h2 := lines_ok h ps (row + 1 + stsRows p) fu ((A ++ [hd]) ++ (stsMarks hs (row + 1) p).map Mark.d) [.tuple (stsD p)] hm2 (by omega) (by simp; omega) (fun q hq => ⟨by have := (hok q (List.mem_cons_of_mem _ hq)).1; omega, by have := (hok q (List.mem_cons_of_mem _ hq)).1; omega, (hok q (List.mem_cons_of_mem _ hq)).2⟩)
  rw [← e3] at h2
  obtain ⟨j, ej⟩ : ∃ j, j = A.length + 1 + stsRows p + brsRows false ps := ⟨_, rfl⟩
  rw [← ej] at h2
  have ejl : j = (((A ++ [hd]) ++ (stsMarks hs (row + 1) p).map Mark.d) ++ (brsMarks hs (row + 1 + stsRows p) false ps).map Mark.d).length := by rw [ej, e3, List.length_append (bs := List.map Mark.d (brsMarks hs (row + 1 + stsRows p) false ps)), List.length_map (as := brsMarks hs (row + 1 + stsRows p) false ps), brsMarks_len]
  have hm3 : ms = (((A ++ [hd]) ++ (stsMarks hs (row + 1) p).map Mark.d) ++ (brsMarks hs (row + 1 + stsRows p) false ps).map Mark.d) ++ .tuple [.str "foot", .int kr] :: B := by rw [hm2]; simp
  have hwf : wordP ms j = some (.str "foot") := by rw [ejl, hm3]; exact word_at
  have hif : idxEv (.tuple ms) (.int (j : Nat)) = some (.tuple [.str "foot", .int kr]) := by rw [ejl, hm3]; exact at_app
  have h0 : idxEv (.tuple ms) (.int (A.length : Nat)) = some hd := by rw [hm]; exact at_app
  have hw0 : idxEv hd (.int 0) = some (.str "head") := by rw [ehd]; exact ax0
  have hw2 : idxEv hd (.int 2) = some (.str x.kind) := by rw [ehd]; exact ax2
  have hrow : A.length + x.rows = j + 1 := by rw [rows_parts hx, ep, brsRows, ej]; omega
  show ((idxEv (.tuple ms) (.int (A.length : Nat))).bind fun mark => (idxEv mark (.int 0)).bind fun w => (cmpEv .eq w (.str "letter")).bind fun b => if b then tellP (hs.map .str) mark A.length
      else (MP (hs.map .str) ms fu k true (A.length + 1)).bind fun r => nxR r fun q => (loopL ms (MP (hs.map .str) ms fu k true) fu q.2 [q.1]).bind fun r2 => nxR r2 fun q2 => shutP ms mark q2.1 q2.2) = _
  rw [h0, Option.bind_some, hw0, Option.bind_some, he_eq, Option.bind_some, if_neg Bool.false_ne_true, h1, Option.bind_some, nx_some]
  show ((loopL ms (MP (hs.map .str) ms fu k true) fu (A.length + 1 + stsRows p) [.tuple (stsD p)]).bind fun r2 => nxR r2 fun q2 => shutP ms hd q2.1 q2.2) = _
  rw [h2, Option.bind_some, nx_some]
  show shutP ms hd (brsD (p :: ps)) j = _
  unfold shutP
  rw [hwf, Option.bind_some, ff_ne, Option.bind_some, if_neg Bool.false_ne_true, hif, Option.bind_some, hw2, Option.bind_some, hrow]
  exact frame_d hx ep (by omega)
theorem rt_all (hfu : 10 < fu) : ∀ n j : Nat, RS hs ms fu n (j + 2 * n + 2)
  | 0, j => rs_of (k := j + 1) fun x row A B hm ho => by
    have := ok_zero ho
    cases x with
    | tell a b w => exact tell_rt hm ho
    | _ => cases this
  | n + 1, j => by
    have ih := rt_all hfu n j
    have e : j + 2 * (n + 1) + 2 = (j + 2 * n + 2 + 1) + 1 := by omega
    rw [e]
    refine rs_of fun x row A B hm ho => ?_
    cases hx : x.isTell with
    | true =>
      cases x with
      | tell a b w => exact tell_rt hm ho
      | _ => cases hx
    | false => exact frame_rt ih hfu hx ho hm
/-- .. all of it -/
theorem rt_laid {n : Nat} {s : List Stp} (hn : n ≤ 10) (hl : s.length ≤ 900) (ho : stsOk hs n s) : MP (hs.map .str) ((stsMarks hs 0 s).map Mark.d) 1000 24 true 0 = some (some (.tuple (stsD s), stsRows s)) := by
  have := rt_all (hs := hs) (ms := (stsMarks hs 0 s).map Mark.d) (fu := 1000) (by decide) n (22 - 2 * n) s 0 [] [] (by simp) (.inl rfl) (by omega) (by omega) ho
  rw [show 22 - 2 * n + 2 * n + 2 = 24 by omega] at this
  simpa using this
end
end Lr
namespace Lr
open PySem PySem.Spec PyProof.Rows L2
/-! ### marks are plain data -/
theorem kw_lay (z : Str) (h : PyData.strOk z = true) {m : Nat} : Lay m (.str z) := (lay_kw z h).mono (Nat.zero_le _)
theorem int_lay (i : Int) {m : Nat} : Lay m (.int i) := ⟨rfl, Nat.zero_le _⟩
theorem lay_letM' {r a b : Int} {w : Str} (h : NameOk w) : Lay 1 (Mark.letter r a b w).d := lay_tup fun d hd => by
  simp only [List.mem_cons, List.not_mem_nil, or_false] at hd
  rcases hd with rfl | rfl | rfl | rfl | rfl
  · exact kw_lay _ (by decide +kernel)
  · exact int_lay _
  · exact int_lay _
  · exact int_lay _
  · exact lay_str h
theorem lay_headM {r lo hi : Int} {k : Str} (h : PyData.strOk k = true) : Lay 1 (Mark.head r k lo hi).d := lay_tup fun d hd => by
  simp only [List.mem_cons, List.not_mem_nil, or_false] at hd
  rcases hd with rfl | rfl | rfl | rfl | rfl
  · exact kw_lay _ (by decide +kernel)
  · exact int_lay _
  · exact kw_lay _ h
  · exact int_lay _
  · exact int_lay _
theorem lay_lineM {r : Int} : Lay 1 (Mark.line r).d := lay_tup fun d hd => by
  simp only [List.mem_cons, List.not_mem_nil, or_false] at hd
  rcases hd with rfl | rfl
  · exact kw_lay _ (by decide +kernel)
  · exact int_lay _
theorem lay_footM {r : Int} : Lay 1 (Mark.foot r).d := lay_tup fun d hd => by
  simp only [List.mem_cons, List.not_mem_nil, or_false] at hd
  rcases hd with rfl | rfl
  · exact kw_lay _ (by decide +kernel)
  · exact int_lay _
mutual
theorem marks_lay (hs : List Str) : ∀ (x : Stp) (row : Nat), (∀ l ∈ x.lets, NameOk l.w) → ∀ m ∈ x.marks hs row, Lay 1 m.d
  | .tell a b w, row, h, m, hm => by
    unfold Stp.marks at hm
    rw [List.mem_singleton] at hm
    subst hm
    exact lay_letM' (h ⟨a, b, w⟩ (by simp [Stp.lets]))
  | .choice bs, row, h, m, hm => by
    unfold Stp.marks at hm
    unfold Stp.lets at h
    rcases List.mem_cons.mp hm with rfl | hm
    · exact lay_headM (by decide +kernel)
    · rcases List.mem_append.mp hm with hm | hm
      · exact brs_lay hs bs true _ h m hm
      · rw [List.mem_singleton] at hm; subst hm; exact lay_footM
  | .round s, row, h, m, hm => by
    unfold Stp.marks at hm
    unfold Stp.lets at h
    rcases List.mem_cons.mp hm with rfl | hm
    · exact lay_headM (by decide +kernel)
    · rcases List.mem_append.mp hm with hm | hm
      · exact sts_lay hs s _ h m hm
      · rw [List.mem_singleton] at hm; subst hm; exact lay_footM
  | .both s t, row, h, m, hm => by
    unfold Stp.marks at hm
    unfold Stp.lets at h
    rcases List.mem_cons.mp hm with rfl | hm
    · exact lay_headM (by decide +kernel)
    · rcases List.mem_append.mp hm with hm | hm
      · exact sts_lay hs s _ (fun l hl => h l (List.mem_append_left _ hl)) m hm
      · rcases List.mem_cons.mp hm with rfl | hm
        · exact lay_lineM
        · rcases List.mem_append.mp hm with hm | hm
          · exact sts_lay hs t _ (fun l hl => h l (List.mem_append_right _ hl)) m hm
          · rw [List.mem_singleton] at hm; subst hm; exact lay_footM
theorem sts_lay (hs : List Str) : ∀ (s : List Stp) (row : Nat), (∀ l ∈ stsLets s, NameOk l.w) → ∀ m ∈ stsMarks hs row s, Lay 1 m.d
  | [], row, h, m, hm => by unfold stsMarks at hm; cases hm
  | x :: s, row, h, m, hm => by
    unfold stsMarks at hm
    unfold stsLets at h
    rcases List.mem_append.mp hm with hm | hm
    · exact marks_lay hs x _ (fun l hl => h l (List.mem_append_left _ hl)) m hm
    · exact sts_lay hs s _ (fun l hl => h l (List.mem_append_right _ hl)) m hm
theorem brs_lay (hs : List Str) : ∀ (s : List (List Stp)) (b : Bool) (row : Nat), (∀ l ∈ brsLets s, NameOk l.w) → ∀ m ∈ brsMarks hs row b s, Lay 1 m.d
  | [], b, row, h, m, hm => by cases b <;> (unfold brsMarks at hm; cases hm)
  | x :: s, true, row, h, m, hm => by
    unfold brsMarks at hm
    unfold brsLets at h
    rcases List.mem_append.mp hm with hm | hm
    · exact sts_lay hs x _ (fun l hl => h l (List.mem_append_left _ hl)) m hm
    · exact brs_lay hs s false _ (fun l hl => h l (List.mem_append_right _ hl)) m hm
  | x :: s, false, row, h, m, hm => by
    unfold brsMarks at hm
    unfold brsLets at h
    rcases List.mem_cons.mp hm with rfl | hm
    · exact lay_lineM
    rcases List.mem_append.mp hm with hm | hm
    · exact sts_lay hs x _ (fun l hl => h l (List.mem_append_left _ hl)) m hm
    · exact brs_lay hs s false _ (fun l hl => h l (List.mem_append_right _ hl)) m hm
end
theorem lay_map {M : List Mark} (h : ∀ m ∈ M, Lay 1 m.d) : Lay 2 (.tuple (M.map Mark.d)) := lay_tup fun d hd => by
  obtain ⟨m, hm, rfl⟩ := List.mem_map.mp hd
  exact h m hm
/-! ### it is a talk -/
theorem stepB_tell {hs : List Str} {m : Nat} {a b w : Str} (ha : a ∈ hs) (hb : b ∈ hs) (hw : NameOk w) : stepB hs m (Stp.tell a b w).d = true := by
  have e : tellB hs [.str a, .str b, .str w] = true := by simp [tellB, handB, nameB, ha, hb, hw]
  cases m with
  | zero => exact (stepW_tell (hs := hs)).trans e
  | succ m => exact (stepW_tell (hs := hs)).trans e
theorem stepsBy_ok {F : PyData → Bool} {s : List Stp} (hl : s.length ≤ 4) (h : ∀ x ∈ s, F x.d = true) : stepsBy F (.tuple (stsD s)) = true := by
  unfold stepsBy
  rw [stsD_map]
  simp only [List.length_map, decide_eq_true hl, Bool.true_and, List.all_map, List.all_eq_true]
  exact h
theorem ok_B {hs : List Str} : ∀ (n m : Nat) (x : Stp), n ≤ m → x.ok hs n → stepB hs m x.d = true
  | n, m, .tell a b w, _, h => by
    obtain ⟨h1, h2, h3⟩ := ok_tell h
    exact stepB_tell h1 h2 h3
  | 0, m, .choice bs, _, h => by unfold Stp.ok at h; exact h.elim
  | 0, m, .round s, _, h => by unfold Stp.ok at h; exact h.elim
  | 0, m, .both s t, _, h => by unfold Stp.ok at h; exact h.elim
  | n + 1, 0, _, hm, _ => absurd hm (by omega)
  | n + 1, m + 1, .choice bs, hm, h => by
    unfold Stp.ok at h
    show stepW hs (some (stepB hs m)) (.tuple (.str "choice" :: [.tuple (brsD bs)])) = true
    rw [stepW_some (by decide +kernel)]
    unfold frameB
    rw [if_pos rfl]
    show partsBy (stepB hs m) (.tuple (brsD bs)) = true
    unfold partsBy
    rw [brsD_map]
    simp only [List.length_map, List.all_map, Bool.and_eq_true, decide_eq_true_eq, List.all_eq_true]
    refine ⟨⟨h.1, h.2.1⟩, fun t ht => ?_⟩
    obtain ⟨h1, h2⟩ := brsOk_all.mp h.2.2 t ht
    exact stepsBy_ok h1 fun x hx => ok_B n m x (by omega) (stsOk_all.mp h2 x hx)
  | n + 1, m + 1, .round s, hm, h => by
    unfold Stp.ok at h
    show stepW hs (some (stepB hs m)) (.tuple (.str "round" :: [.tuple (stsD s)])) = true
    rw [stepW_some (by decide +kernel)]
    unfold frameB
    rw [if_neg (by decide +kernel), if_pos rfl]
    exact stepsBy_ok h.1 fun x hx => ok_B n m x (by omega) (stsOk_all.mp h.2 x hx)
  | n + 1, m + 1, .both s t, hm, h => by
    unfold Stp.ok at h
    show stepW hs (some (stepB hs m)) (.tuple (.str "both" :: [.tuple (stsD s), .tuple (stsD t)])) = true
    rw [stepW_some (by decide +kernel)]
    unfold frameB
    rw [if_neg (by decide +kernel), if_neg (by decide +kernel), if_pos rfl]
    show (stepsBy (stepB hs m) (.tuple (stsD s)) && stepsBy (stepB hs m) (.tuple (stsD t))) = true
    rw [stepsBy_ok h.1 fun x hx => ok_B n m x (by omega) (stsOk_all.mp h.2.1 x hx), stepsBy_ok h.2.2.1 fun x hx => ok_B n m x (by omega) (stsOk_all.mp h.2.2.2 x hx)]
    rfl
theorem strs0_map : ∀ hs : List Str, strs0 (hs.map .str) = hs
  | [] => rfl
  | x :: xs => by rw [List.map_cons]; unfold strs0; rw [strs0_map xs]
theorem cnt_nodup {hs : List Str} (h : hs.Nodup) : ∀ i, i ≤ hs.length → cntN hs i = i
  | 0, _ => rfl
  | i + 1, hi => by
    unfold cntN
    have hlt : i < hs.length := by omega
    have e : hs.getD i "" = hs[i] := by simp [List.getD, hlt]
    have hn : hs.getD i "" ∉ hs.take i := by
      rw [e]
      intro hm
      obtain ⟨j, hj, ej⟩ := List.getElem_of_mem hm
      rw [List.length_take] at hj
      rw [List.getElem_take] at ej
      exact (List.pairwise_iff_getElem.mp h) j i (by omega) hlt (by omega) ej
    rw [if_neg hn, cnt_nodup h i (by omega)]
theorem talkB_ok {hs : List Str} {n : Nat} {s : List Stp} (ho : HandsOk hs) (hn : n ≤ 3) (hl : s.length ≤ 4) (h : stsOk hs n s) : talkB (talkD hs s) = true := by
  show (decide (1 ≤ (hs.map PyData.str).length ∧ (hs.map PyData.str).length ≤ 4) && ((hs.map PyData.str).all nameB && (decide (cntN (strs0 (hs.map .str)) (hs.map PyData.str).length = (hs.map PyData.str).length) && stepsBy (stepB (strs0 (hs.map .str)) 3) (.tuple (stsD s))))) = true
  rw [strs0_map, List.length_map, cnt_nodup ho.nd _ (Nat.le_refl _)]
  have hp := ho.pos
  have hf := ho.few
  simp only [Bool.and_eq_true, decide_eq_true_eq, List.all_map, List.all_eq_true]
  refine ⟨⟨by omega, hf⟩, fun x hx => ?_, trivial, stepsBy_ok hl fun x hx => ok_B n 3 x hn (stsOk_all.mp h x hx)⟩
  show decide (NameOk x) = true
  exact decide_eq_true (ho.names x hx)
section
variable {T : Tab} {g : Str → Option PyData} {fu : Nat}
structure Unl (T : Tab) : Prop where
  tk : TkT T
  lay : Lay0 T
  unl : T "unlaid" = some d_unlaid
  pr : T "#" = some d_probe
theorem unl_letters {hs : List Str} {n : Nat} {s : List Stp} (h : stsOk hs n s) : LetsIn hs (stsLets s) ∧ ∀ l ∈ stsLets s, NameOk l.w :=
  ⟨fun l hl => let q := (lets_all n s h).2 l hl; ⟨q.1, q.2.1⟩, fun l hl => ((lets_all n s h).2 l hl).2.2⟩
theorem unlaid_ok (U : Unl T) (G : Glob g) (hg : g "DEEPEST" = some (.int 3)) {hs : List Str} {n : Nat} {s : List Stp} (ho : HandsOk hs) (hn : n ≤ 3) (hl : s.length ≤ 4) (h : stsOk hs n s) {k : Nat} (hk : 40 ≤ k) :
    callAt T g fu k "unlaid" [hsD hs, .tuple ((stsMarks hs 0 s).map Mark.d)] = some (talkD hs s) := by
  obtain ⟨j, rfl⟩ := lvl (show 1 ≤ k by omega)
  refine prim_call U.unl rfl ?_
  have h1 : callAt T g fu j "#" [.int (24 : Nat)] = some (.int 0) := probe_ok U.pr (by omega)
  have h2 := rt_laid (hs := hs) (show n ≤ 10 by omega) (show s.length ≤ 900 by omega) h
  have h3 : callAt T g fu j "is_talk" [talkD hs s] = some (.bool true) := by
    rw [istalk_ok U.tk G hg (L := 20) (m := 15) (by decide) (by omega) (gd_talk (by omega) ho hl h), talkB_ok ho hn hl h]
  obtain ⟨l1, l2⟩ := unl_letters h
  have hsz : stsSize s ≤ 1000000 := by
    have := stsOk_size n s hl h
    have := szN4 (show n ≤ 4 by omega)
    omega
  have h4 : callAt T g fu j "laid" [talkD hs s] = some (.tuple ((stsMarks hs 0 s).map Mark.d)) := laid_ok U.lay (by have := ho.few; omega) (n := n) (stsOk_deep h) (by omega) hsz l1
  have h5 : cmpEv .ne (.tuple ((stsMarks hs 0 s).map Mark.d)) (.tuple ((stsMarks hs 0 s).map Mark.d)) = some false := ne_same (lay_map (sts_lay hs s 0 l2)) (by decide)
  show (match unlP 24 1000 (callAt T g fu j) (hs.map .str) ((stsMarks hs 0 s).map Mark.d) with
    | some (some d) => some d
    | _ => none) = _
  have : unlP 24 1000 (callAt T g fu j) (hs.map .str) ((stsMarks hs 0 s).map Mark.d) = some (some (talkD hs s)) := by
    unfold unlP
    rw [h1, Option.bind_some, h2, Option.bind_some, nx_some]
    rw [if_neg (by rw [List.length_map, stsMarks_len]; exact Nat.lt_irrefl _)]
    show ((callAt T g fu j "is_talk" [talkD hs s]).bind fun b => match b with
      | .bool true => (callAt T g fu j "laid" [talkD hs s]).bind fun l => (cmpEv .ne l (.tuple ((stsMarks hs 0 s).map Mark.d))).bind fun ne => if ne then some none else some (some (talkD hs s))
      | .bool false => some none
      | _ => none) = _
    rw [h3, Option.bind_some]
    show ((callAt T g fu j "laid" [talkD hs s]).bind fun l => (cmpEv .ne l (.tuple ((stsMarks hs 0 s).map Mark.d))).bind fun ne => if ne then some none else some (some (talkD hs s))) = _
    rw [h4, Option.bind_some, h5, Option.bind_some, if_neg Bool.false_ne_true]
  rw [this]
end
end Lr
namespace Lr
open PySem PySem.Spec PyProof.Rows L2
/-! ### lower, and from the other side -/
def Mark.low (k : Int) : Mark → Mark
  | .letter r a b w => .letter (r + k) a b w
  | .head r x lo hi => .head (r + k) x lo hi
  | .line r => .line (r + k)
  | .foot r => .foot (r + k)
def Mark.mir (l : Int) : Mark → Mark
  | .letter r a b w => .letter r (l - a) (l - b) w
  | .head r x lo hi => .head r x (l - hi) (l - lo)
  | .line r => .line r
  | .foot r => .foot r
mutual
theorem marks_low (hs : List Str) (k : Nat) : ∀ (x : Stp) (row : Nat), x.marks hs (row + k) = (x.marks hs row).map (Mark.low k)
  | .tell a b w, row => by simp [Stp.marks, Mark.low]
  | .choice bs, row => by
    have e : row + k + 1 = row + 1 + k := by omega
    simp only [Stp.marks, List.map_cons, List.map_append, List.map_nil, Mark.low, e, brs_low hs k bs true (row + 1)]
    simp; omega
  | .round s, row => by
    have e : row + k + 1 = row + 1 + k := by omega
    simp only [Stp.marks, List.map_cons, List.map_append, List.map_nil, Mark.low, e, sts_low hs k s (row + 1)]
    simp; omega
  | .both s t, row => by
    have e : row + k + 1 = row + 1 + k := by omega
    have e2 : row + 1 + k + stsRows s + 1 = row + 1 + stsRows s + 1 + k := by omega
    simp only [Stp.marks, List.map_cons, List.map_append, List.map_nil, Mark.low, e, e2, sts_low hs k s (row + 1), sts_low hs k t (row + 1 + stsRows s + 1)]
    simp; omega
theorem sts_low (hs : List Str) (k : Nat) : ∀ (s : List Stp) (row : Nat), stsMarks hs (row + k) s = (stsMarks hs row s).map (Mark.low k)
  | [], row => rfl
  | x :: s, row => by
    have e : row + k + x.rows = row + x.rows + k := by omega
    rw [stsMarks, stsMarks, List.map_append, marks_low hs k x row, e, sts_low hs k s (row + x.rows)]
theorem brs_low (hs : List Str) (k : Nat) : ∀ (s : List (List Stp)) (b : Bool) (row : Nat), brsMarks hs (row + k) b s = (brsMarks hs row b s).map (Mark.low k)
  | [], b, row => by cases b <;> (unfold brsMarks; rfl)
  | x :: s, true, row => by
    have e : row + k + stsRows x = row + stsRows x + k := by omega
    rw [brsMarks, brsMarks, List.map_append, sts_low hs k x row, e, brs_low hs k s false (row + stsRows x)]
  | x :: s, false, row => by
    have e : row + k + 1 = row + 1 + k := by omega
    have e2 : row + 1 + k + stsRows x = row + 1 + stsRows x + k := by omega
    rw [brsMarks, brsMarks, List.map_cons, List.map_append, e, sts_low hs k x (row + 1), e2, brs_low hs k s false (row + 1 + stsRows x)]
    simp [Mark.low]
end
theorem idx_revM {hs : List Str} (nd : hs.Nodup) {z : Str} (h : z ∈ hs) : ((hs.reverse.idxOf z : Nat) : Int) = (hs.length : Int) - 1 - (hs.idxOf z : Nat) := by
  have l1 : hs.idxOf z < hs.length := List.idxOf_lt_length_of_mem h
  have l2 : hs.reverse.idxOf z < hs.reverse.length := List.idxOf_lt_length_of_mem (by simpa using h)
  have e1 : hs.reverse[hs.reverse.idxOf z] = z := List.getElem_idxOf l2
  have l3 : hs.reverse.length = hs.length := List.length_reverse
  rw [List.getElem_reverse] at e1
  have e2 : hs[hs.idxOf z] = z := List.getElem_idxOf l1
  have key : ∀ (i j : Nat) (hi : i < hs.length) (hj : j < hs.length), hs[i] = hs[j] → i = j := by
    intro i j hi hj e
    by_cases q : i < j
    · exact absurd e ((List.pairwise_iff_getElem.mp nd) i j hi hj q)
    · by_cases q2 : j < i
      · exact absurd e.symm ((List.pairwise_iff_getElem.mp nd) j i hj hi q2)
      · omega
  have := key _ _ (by omega) l1 (e1.trans e2.symm)
  omega
theorem lane_rev {hs : List Str} (nd : hs.Nodup) {z : Str} (h : z ∈ hs) : laneOf hs.reverse z = (hs.length : Int) - 1 - laneOf hs z := idx_revM nd h
theorem lanesL_rev {hs : List Str} (nd : hs.Nodup) : ∀ {ls : List Letter}, LetsIn hs ls → lanesL hs.reverse ls = (lanesL hs ls).map fun n => (hs.length : Int) - 1 - n
  | [], _ => rfl
  | l :: r, h => by
    obtain ⟨h1, h2⟩ := h l List.mem_cons_self
    rw [lanesL, lanesL, List.map_cons, List.map_cons, lanesL_rev nd (ls := r) fun m hm => h m (List.mem_cons_of_mem _ hm), lane_rev nd h1, lane_rev nd h2]
theorem min_mir (c : Int) : ∀ (ns : List Int) (n : Int), (ns.map fun n => c - n).foldl min (c - n) = c - ns.foldl max n
  | [], n => rfl
  | m :: ns, n => by
    rw [List.map_cons, List.foldl_cons, List.foldl_cons, show min (c - n) (c - m) = c - max n m by omega, min_mir c ns]
theorem max_mir (c : Int) : ∀ (ns : List Int) (n : Int), (ns.map fun n => c - n).foldl max (c - n) = c - ns.foldl min n
  | [], n => rfl
  | m :: ns, n => by
    rw [List.map_cons, List.foldl_cons, List.foldl_cons, show max (c - n) (c - m) = c - min n m by omega, max_mir c ns]
theorem frame_rev {hs : List Str} (nd : hs.Nodup) {ls : List Letter} (h : LetsIn hs ls) : frame hs.reverse ls = ((hs.length : Int) - 1 - (frame hs ls).2, (hs.length : Int) - 1 - (frame hs ls).1) := by
  unfold frame
  rw [lanesL_rev nd h, List.length_reverse]
  cases lanesL hs ls with
  | nil => show ((0 : Int), ((hs.length : Nat) : Int) - 1) = _; simp [frameOf]
  | cons n ns =>
    show ((ns.map _).foldl min _, (ns.map _).foldl max _) = _
    rw [min_mir, max_mir]
    rfl
mutual
theorem marks_rev {hs : List Str} (nd : hs.Nodup) : ∀ (x : Stp) (row : Nat), LetsIn hs x.lets → x.marks hs.reverse row = (x.marks hs row).map (Mark.mir ((hs.length : Int) - 1))
  | .tell a b w, row, h => by
    obtain ⟨h1, h2⟩ := h ⟨a, b, w⟩ (by simp [Stp.lets])
    simp [Stp.marks, Mark.mir, lane_rev nd h1, lane_rev nd h2]
  | .choice bs, row, h => by
    unfold Stp.lets at h
    simp only [Stp.marks, List.map_cons, List.map_append, List.map_nil, Mark.mir, brs_rev nd bs true (row + 1) h, frame_rev nd h]
  | .round s, row, h => by
    unfold Stp.lets at h
    simp only [Stp.marks, List.map_cons, List.map_append, List.map_nil, Mark.mir, sts_rev nd s (row + 1) h, frame_rev nd h]
  | .both s t, row, h => by
    unfold Stp.lets at h
    simp only [Stp.marks, List.map_cons, List.map_append, List.map_nil, Mark.mir, sts_rev nd s (row + 1) (fun l hl => h l (List.mem_append_left _ hl)), sts_rev nd t (row + 1 + stsRows s + 1) (fun l hl => h l (List.mem_append_right _ hl)), frame_rev nd h]
theorem sts_rev {hs : List Str} (nd : hs.Nodup) : ∀ (s : List Stp) (row : Nat), LetsIn hs (stsLets s) → stsMarks hs.reverse row s = (stsMarks hs row s).map (Mark.mir ((hs.length : Int) - 1))
  | [], row, h => rfl
  | x :: s, row, h => by
    unfold stsLets at h
    rw [stsMarks, stsMarks, List.map_append, marks_rev nd x row (fun l hl => h l (List.mem_append_left _ hl)), sts_rev nd s (row + x.rows) (fun l hl => h l (List.mem_append_right _ hl))]
theorem brs_rev {hs : List Str} (nd : hs.Nodup) : ∀ (s : List (List Stp)) (b : Bool) (row : Nat), LetsIn hs (brsLets s) → brsMarks hs.reverse row b s = (brsMarks hs row b s).map (Mark.mir ((hs.length : Int) - 1))
  | [], b, row, h => by cases b <;> (unfold brsMarks; rfl)
  | x :: s, true, row, h => by
    unfold brsLets at h
    rw [brsMarks, brsMarks, List.map_append, sts_rev nd x row (fun l hl => h l (List.mem_append_left _ hl)), brs_rev nd s false (row + stsRows x) (fun l hl => h l (List.mem_append_right _ hl))]
  | x :: s, false, row, h => by
    unfold brsLets at h
    rw [brsMarks, brsMarks, List.map_cons, List.map_append, sts_rev nd x (row + 1) (fun l hl => h l (List.mem_append_left _ hl)), brs_rev nd s false (row + 1 + stsRows x) (fun l hl => h l (List.mem_append_right _ hl))]
    rfl
end
mutual
theorem ok_perm {hs hs' : List Str} (e : ∀ x, x ∈ hs → x ∈ hs') : ∀ {n : Nat} {x : Stp}, x.ok hs n → x.ok hs' n
  | n, .tell a b w, h => by
    obtain ⟨h1, h2, h3⟩ := ok_tell h
    cases n <;> (unfold Stp.ok; exact ⟨e _ h1, e _ h2, h3⟩)
  | 0, .choice bs, h => by unfold Stp.ok at h; exact h.elim
  | 0, .round s, h => by unfold Stp.ok at h; exact h.elim
  | 0, .both s t, h => by unfold Stp.ok at h; exact h.elim
  | n + 1, .choice bs, h => by unfold Stp.ok at h ⊢; exact ⟨h.1, h.2.1, brs_perm e h.2.2⟩
  | n + 1, .round s, h => by unfold Stp.ok at h ⊢; exact ⟨h.1, sts_perm e h.2⟩
  | n + 1, .both s t, h => by unfold Stp.ok at h ⊢; exact ⟨h.1, sts_perm e h.2.1, h.2.2.1, sts_perm e h.2.2.2⟩
theorem sts_perm {hs hs' : List Str} (e : ∀ x, x ∈ hs → x ∈ hs') : ∀ {n : Nat} {s : List Stp}, stsOk hs n s → stsOk hs' n s
  | n, [], h => by unfold stsOk; trivial
  | n, x :: s, h => by unfold stsOk at h ⊢; exact ⟨ok_perm e h.1, sts_perm e h.2⟩
theorem brs_perm {hs hs' : List Str} (e : ∀ x, x ∈ hs → x ∈ hs') : ∀ {n : Nat} {s : List (List Stp)}, brsOk hs n s → brsOk hs' n s
  | n, [], h => by unfold brsOk; trivial
  | n, x :: s, h => by unfold brsOk at h ⊢; exact ⟨h.1, sts_perm e h.2.1, brs_perm e h.2.2⟩
end
section
variable {T : Tab} {g : Str → Option PyData} {fu : Nat}
theorem cut2 {α : Type} {x y : α} {xs : List α} : cutA (x :: y :: xs) (some 2) none = xs := by
  unfold cutA
  rw [HT.sIx_none, show (2 : Int) = ((2 : Nat) : Int) from rfl, HT.sIx_nat]
  have : min 2 (x :: y :: xs).length = 2 := by simp
  rw [this]
  simp
theorem low_one {c : Cfg} {m : Mark} {b : Int} {s0 : Slot} : ev false c [s0, .val (.int b), .val m.d] (.bin .add (.tup (.cons (.idx (.var 2) (.lit (.int 0))) (.cons (.bin .add (.idx (.var 2) (.lit (.int 1))) (.var 1)) .nil))) (.slice (.var 2) (.som (.lit (.int 2))) .non)) = some (m.low b).d := by
  cases m <;> (unfold Mark.d Mark.low; simp only [cmpl, exs, ex, ev, evs, evPart, evIt, sealE, sealIt, rd_val, rd_own, rd_succ, Lr.add_int, Lr.sub_int, bin_add, bin_sub, bin_mul, bin_fdiv, bin_mod, cmp_eq, cmp_ne, cmp_lt, cmp_le, cmp_gt, cmp_ge, cmp_in, cmp_notin, cmp_isN, cmp_isnotN, Lr.eq_int, Lr.ne_int, Lr.len_lst, Lr.len_tup, tuple_lst, tuple_tup, list_lst, list_tup, int_bl, bi_len, bi_tuple, bi_list, bi_int, bi_join, bi_any, bi_all, bi_index, bi_sorted, bi_min1, bi_max1, bi_max2, bi_abs, bi_sum, bi_split, idx_lst, idx_tup, Lr.sl_lst, Lr.sl_tup, and_t', and_f, or_f', or_t, blo, chain_f, chain_t, not_b, neg_i, cond_t, cond_f, rng1, rng2, list_of, part_i, seq_nx, seq_ret, seq_brk, seq_cont, if_t, if_f, own_some, own_val, own_non, sv_some, sv_none, bind_name, start0, Option.bind_some, Option.bind_none, Option.map_some, Option.map_none, List.map_cons, List.map_nil, List.length_cons, List.length_nil, List.replicate, List.cons_append, List.nil_append, List.getElem?_cons_zero, List.getElem?_cons_succ, List.set_cons_zero, List.set_cons_succ, Nat.reduceAdd, Nat.reduceSub, if_true, if_false, Bool.false_eq_true, reduceIte, decide_true, decide_false, Bool.not_true, Bool.not_false, tup_d, lst_d, sz0, sz1, sz2, sz3, sz4, sz5, bnd2, bnd2l, bnd3, set2, set3, abs_i, max2_i, lt_i, gt_i, le_i, ge_i, for_nil, sat_some, lo_nx, lo_cont, lo_brk, lo_ret, ax0, ax1, cut2, Lr.add_tup, sz_ok (show 5 ≤ 16777216 by decide), sz_ok (show 2 ≤ 16777216 by decide)])
theorem lower_ok (hT : T "_law_lower" = some d_law_lower) {M : List Mark} (hl : M.length ≤ 1000000) {b : Int} {k : Nat} (hk : 1 ≤ k) : callAt T g fu k "_law_lower" [.tuple (M.map Mark.d), .int b] = some (.tuple ((M.map (Mark.low b)).map Mark.d)) := by
  obtain ⟨k, rfl⟩ := lvl hk
  refine call_sat (df := d_law_lower) hT rfl ?_
  refine ret_sat ?_ rfl
  have hq : seqItems (.tuple (M.map Mark.d)) = some (M.map Mark.d) := by rw [seqI_tup, sz_ok (by rw [List.length_map]; omega)]; rfl
  simp only [d_law_lower, cmpl, exs, ex, ev, evs, evPart, evIt, sealE, sealIt, rd_val, rd_own, rd_succ, Lr.add_int, Lr.sub_int, bin_add, bin_sub, bin_mul, bin_fdiv, bin_mod, cmp_eq, cmp_ne, cmp_lt, cmp_le, cmp_gt, cmp_ge, cmp_in, cmp_notin, cmp_isN, cmp_isnotN, Lr.eq_int, Lr.ne_int, Lr.len_lst, Lr.len_tup, tuple_lst, tuple_tup, list_lst, list_tup, int_bl, bi_len, bi_tuple, bi_list, bi_int, bi_join, bi_any, bi_all, bi_index, bi_sorted, bi_min1, bi_max1, bi_max2, bi_abs, bi_sum, bi_split, idx_lst, idx_tup, Lr.sl_lst, Lr.sl_tup, and_t', and_f, or_f', or_t, blo, chain_f, chain_t, not_b, neg_i, cond_t, cond_f, rng1, rng2, list_of, part_i, seq_nx, seq_ret, seq_brk, seq_cont, if_t, if_f, own_some, own_val, own_non, sv_some, sv_none, bind_name, start0, Option.bind_some, Option.bind_none, Option.map_some, Option.map_none, List.map_cons, List.map_nil, List.length_cons, List.length_nil, List.replicate, List.cons_append, List.nil_append, List.getElem?_cons_zero, List.getElem?_cons_succ, List.set_cons_zero, List.set_cons_succ, Nat.reduceAdd, Nat.reduceSub, if_true, if_false, Bool.false_eq_true, reduceIte, decide_true, decide_false, Bool.not_true, Bool.not_false, tup_d, lst_d, sz0, sz1, sz2, sz3, sz4, sz5, bnd2, bnd2l, bnd3, set2, set3, abs_i, max2_i, lt_i, gt_i, le_i, ge_i, for_nil, sat_some, lo_nx, lo_cont, lo_brk, lo_ret, hq]
  have hlc : lcRun (fun d => (bindT [.val (.tuple (M.map Mark.d)), .val (.int b), .none] (.name 2) d).bind fun ρ' => (ev true ⟨callAt T g fu k, fu, g⟩ ρ' (.lit (.bool true))).bind fun kk => condD kk (ev false ⟨callAt T g fu k, fu, g⟩ ρ' (.bin .add (.tup (.cons (.idx (.var 2) (.lit (.int 0))) (.cons (.bin .add (.idx (.var 2) (.lit (.int 1))) (.var 1)) .nil))) (.slice (.var 2) (.som (.lit (.int 2))) .non)))) (M.map Mark.d) = some (M.map fun m => (m.low b).d) := lcRun_map fun m _ => by
    show (condD (.bool true) (ev false ⟨callAt T g fu k, fu, g⟩ [.val (.tuple (M.map Mark.d)), .val (.int b), .val m.d] _)) = _
    rw [low_one]
    rfl
  simp only [cmpl, exs, ex, ev, evs, evPart, evIt, sealE, sealIt, rd_val, rd_own, rd_succ, Lr.add_int, Lr.sub_int, bin_add, bin_sub, bin_mul, bin_fdiv, bin_mod, cmp_eq, cmp_ne, cmp_lt, cmp_le, cmp_gt, cmp_ge, cmp_in, cmp_notin, cmp_isN, cmp_isnotN, Lr.eq_int, Lr.ne_int, Lr.len_lst, Lr.len_tup, tuple_lst, tuple_tup, list_lst, list_tup, int_bl, bi_len, bi_tuple, bi_list, bi_int, bi_join, bi_any, bi_all, bi_index, bi_sorted, bi_min1, bi_max1, bi_max2, bi_abs, bi_sum, bi_split, idx_lst, idx_tup, Lr.sl_lst, Lr.sl_tup, and_t', and_f, or_f', or_t, blo, chain_f, chain_t, not_b, neg_i, cond_t, cond_f, rng1, rng2, list_of, part_i, seq_nx, seq_ret, seq_brk, seq_cont, if_t, if_f, own_some, own_val, own_non, sv_some, sv_none, bind_name, start0, Option.bind_some, Option.bind_none, Option.map_some, Option.map_none, List.map_cons, List.map_nil, List.length_cons, List.length_nil, List.replicate, List.cons_append, List.nil_append, List.getElem?_cons_zero, List.getElem?_cons_succ, List.set_cons_zero, List.set_cons_succ, Nat.reduceAdd, Nat.reduceSub, if_true, if_false, Bool.false_eq_true, reduceIte, decide_true, decide_false, Bool.not_true, Bool.not_false, tup_d, lst_d, sz0, sz1, sz2, sz3, sz4, sz5, bnd2, bnd2l, bnd3, set2, set3, abs_i, max2_i, lt_i, gt_i, le_i, ge_i, for_nil, sat_some, lo_nx, lo_cont, lo_brk, lo_ret] at hlc
  simp only [cmpl, exs, ex, ev, evs, evPart, evIt, sealE, sealIt, rd_val, rd_own, rd_succ, Lr.add_int, Lr.sub_int, bin_add, bin_sub, bin_mul, bin_fdiv, bin_mod, cmp_eq, cmp_ne, cmp_lt, cmp_le, cmp_gt, cmp_ge, cmp_in, cmp_notin, cmp_isN, cmp_isnotN, Lr.eq_int, Lr.ne_int, Lr.len_lst, Lr.len_tup, tuple_lst, tuple_tup, list_lst, list_tup, int_bl, bi_len, bi_tuple, bi_list, bi_int, bi_join, bi_any, bi_all, bi_index, bi_sorted, bi_min1, bi_max1, bi_max2, bi_abs, bi_sum, bi_split, idx_lst, idx_tup, Lr.sl_lst, Lr.sl_tup, and_t', and_f, or_f', or_t, blo, chain_f, chain_t, not_b, neg_i, cond_t, cond_f, rng1, rng2, list_of, part_i, seq_nx, seq_ret, seq_brk, seq_cont, if_t, if_f, own_some, own_val, own_non, sv_some, sv_none, bind_name, start0, Option.bind_some, Option.bind_none, Option.map_some, Option.map_none, List.map_cons, List.map_nil, List.length_cons, List.length_nil, List.replicate, List.cons_append, List.nil_append, List.getElem?_cons_zero, List.getElem?_cons_succ, List.set_cons_zero, List.set_cons_succ, Nat.reduceAdd, Nat.reduceSub, if_true, if_false, Bool.false_eq_true, reduceIte, decide_true, decide_false, Bool.not_true, Bool.not_false, tup_d, lst_d, sz0, sz1, sz2, sz3, sz4, sz5, bnd2, bnd2l, bnd3, set2, set3, abs_i, max2_i, lt_i, gt_i, le_i, ge_i, for_nil, sat_some, lo_nx, lo_cont, lo_brk, lo_ret, hlc, List.map_map]
  rfl
theorem cut4 {α : Type} {x y z u v : α} : cutA [x, y, z, u, v] (some 4) none = [v] := rfl
theorem cutp2 {α : Type} {x y : α} {xs : List α} : cutA (x :: y :: xs) none (some 2) = [x, y] := by
  unfold cutA
  rw [show (2 : Int) = ((2 : Nat) : Int) from rfl, HT.sIx_nat, HT.sIx_none]
  have : min 2 (x :: y :: xs).length = 2 := by simp
  rw [this]
  simp
theorem cutp3 {α : Type} {x y z u v : α} : cutA [x, y, z, u, v] none (some 3) = [x, y, z] := rfl
theorem lh_eq : eqEv (.str "head") (.str "letter") = some false := by decide +kernel
theorem li_eq : eqEv (.str "line") (.str "letter") = some false := by decide +kernel
theorem lf_eq : eqEv (.str "foot") (.str "letter") = some false := by decide +kernel
theorem lle_eq : eqEv (.str "letter") (.str "letter") = some true := by decide +kernel
theorem hh_eq : eqEv (.str "head") (.str "head") = some true := by decide +kernel
theorem hli_eq : eqEv (.str "line") (.str "head") = some false := by decide +kernel
theorem hf_eq : eqEv (.str "foot") (.str "head") = some false := by decide +kernel
theorem side_ok (hT : T "_law_other_side" = some d_law_other_side) (m : Mark) {l : Int} {k : Nat} (hk : 1 ≤ k) : callAt T g fu k "_law_other_side" [m.d, .int l] = some (m.mir l).d := by
  obtain ⟨k, rfl⟩ := lvl hk
  refine call_sat (df := d_law_other_side) hT rfl ?_
  have a4 : ∀ {x y z u v : PyData}, atI [x, y, z, u, v] 4 = some v := fun {x y z u v} => atI_nat (j := 4) rfl
  cases m with
  | letter r a b w =>
    refine ife_t (by simp only [Mark.d, d_law_other_side, cmpl, exs, ex, ev, evs, evPart, evIt, sealE, sealIt, rd_val, rd_own, rd_succ, Lr.add_int, Lr.sub_int, bin_add, bin_sub, bin_mul, bin_fdiv, bin_mod, cmp_eq, cmp_ne, cmp_lt, cmp_le, cmp_gt, cmp_ge, cmp_in, cmp_notin, cmp_isN, cmp_isnotN, Lr.eq_int, Lr.ne_int, Lr.len_lst, Lr.len_tup, tuple_lst, tuple_tup, list_lst, list_tup, int_bl, bi_len, bi_tuple, bi_list, bi_int, bi_join, bi_any, bi_all, bi_index, bi_sorted, bi_min1, bi_max1, bi_max2, bi_abs, bi_sum, bi_split, idx_lst, idx_tup, Lr.sl_lst, Lr.sl_tup, and_t', and_f, or_f', or_t, blo, chain_f, chain_t, not_b, neg_i, cond_t, cond_f, rng1, rng2, list_of, part_i, seq_nx, seq_ret, seq_brk, seq_cont, if_t, if_f, own_some, own_val, own_non, sv_some, sv_none, bind_name, start0, Option.bind_some, Option.bind_none, Option.map_some, Option.map_none, List.map_cons, List.map_nil, List.length_cons, List.length_nil, List.replicate, List.cons_append, List.nil_append, List.getElem?_cons_zero, List.getElem?_cons_succ, List.set_cons_zero, List.set_cons_succ, Nat.reduceAdd, Nat.reduceSub, if_true, if_false, Bool.false_eq_true, reduceIte, decide_true, decide_false, Bool.not_true, Bool.not_false, tup_d, lst_d, sz0, sz1, sz2, sz3, sz4, sz5, bnd2, bnd2l, bnd3, set2, set3, abs_i, max2_i, lt_i, gt_i, le_i, ge_i, for_nil, sat_some, lo_nx, lo_cont, lo_brk, lo_ret, ax0, lle_eq]) ?_
    refine ret_sat ?_ rfl
    simp only [Mark.d, Mark.mir, cmpl, exs, ex, ev, evs, evPart, evIt, sealE, sealIt, rd_val, rd_own, rd_succ, Lr.add_int, Lr.sub_int, bin_add, bin_sub, bin_mul, bin_fdiv, bin_mod, cmp_eq, cmp_ne, cmp_lt, cmp_le, cmp_gt, cmp_ge, cmp_in, cmp_notin, cmp_isN, cmp_isnotN, Lr.eq_int, Lr.ne_int, Lr.len_lst, Lr.len_tup, tuple_lst, tuple_tup, list_lst, list_tup, int_bl, bi_len, bi_tuple, bi_list, bi_int, bi_join, bi_any, bi_all, bi_index, bi_sorted, bi_min1, bi_max1, bi_max2, bi_abs, bi_sum, bi_split, idx_lst, idx_tup, Lr.sl_lst, Lr.sl_tup, and_t', and_f, or_f', or_t, blo, chain_f, chain_t, not_b, neg_i, cond_t, cond_f, rng1, rng2, list_of, part_i, seq_nx, seq_ret, seq_brk, seq_cont, if_t, if_f, own_some, own_val, own_non, sv_some, sv_none, bind_name, start0, Option.bind_some, Option.bind_none, Option.map_some, Option.map_none, List.map_cons, List.map_nil, List.length_cons, List.length_nil, List.replicate, List.cons_append, List.nil_append, List.getElem?_cons_zero, List.getElem?_cons_succ, List.set_cons_zero, List.set_cons_succ, Nat.reduceAdd, Nat.reduceSub, if_true, if_false, Bool.false_eq_true, reduceIte, decide_true, decide_false, Bool.not_true, Bool.not_false, tup_d, lst_d, sz0, sz1, sz2, sz3, sz4, sz5, bnd2, bnd2l, bnd3, set2, set3, abs_i, max2_i, lt_i, gt_i, le_i, ge_i, for_nil, sat_some, lo_nx, lo_cont, lo_brk, lo_ret, ax2, ax3, cutp2, cut4, Lr.add_tup, sz_ok (show 5 ≤ 16777216 by decide), sz_ok (show 4 ≤ 16777216 by decide), sz_ok (show 2 ≤ 16777216 by decide)]
  | head r x lo hi =>
    refine ife_f (by simp only [Mark.d, d_law_other_side, cmpl, exs, ex, ev, evs, evPart, evIt, sealE, sealIt, rd_val, rd_own, rd_succ, Lr.add_int, Lr.sub_int, bin_add, bin_sub, bin_mul, bin_fdiv, bin_mod, cmp_eq, cmp_ne, cmp_lt, cmp_le, cmp_gt, cmp_ge, cmp_in, cmp_notin, cmp_isN, cmp_isnotN, Lr.eq_int, Lr.ne_int, Lr.len_lst, Lr.len_tup, tuple_lst, tuple_tup, list_lst, list_tup, int_bl, bi_len, bi_tuple, bi_list, bi_int, bi_join, bi_any, bi_all, bi_index, bi_sorted, bi_min1, bi_max1, bi_max2, bi_abs, bi_sum, bi_split, idx_lst, idx_tup, Lr.sl_lst, Lr.sl_tup, and_t', and_f, or_f', or_t, blo, chain_f, chain_t, not_b, neg_i, cond_t, cond_f, rng1, rng2, list_of, part_i, seq_nx, seq_ret, seq_brk, seq_cont, if_t, if_f, own_some, own_val, own_non, sv_some, sv_none, bind_name, start0, Option.bind_some, Option.bind_none, Option.map_some, Option.map_none, List.map_cons, List.map_nil, List.length_cons, List.length_nil, List.replicate, List.cons_append, List.nil_append, List.getElem?_cons_zero, List.getElem?_cons_succ, List.set_cons_zero, List.set_cons_succ, Nat.reduceAdd, Nat.reduceSub, if_true, if_false, Bool.false_eq_true, reduceIte, decide_true, decide_false, Bool.not_true, Bool.not_false, tup_d, lst_d, sz0, sz1, sz2, sz3, sz4, sz5, bnd2, bnd2l, bnd3, set2, set3, abs_i, max2_i, lt_i, gt_i, le_i, ge_i, for_nil, sat_some, lo_nx, lo_cont, lo_brk, lo_ret, ax0, lh_eq]) ?_
    refine ife_t (by simp only [Mark.d, d_law_other_side, cmpl, exs, ex, ev, evs, evPart, evIt, sealE, sealIt, rd_val, rd_own, rd_succ, Lr.add_int, Lr.sub_int, bin_add, bin_sub, bin_mul, bin_fdiv, bin_mod, cmp_eq, cmp_ne, cmp_lt, cmp_le, cmp_gt, cmp_ge, cmp_in, cmp_notin, cmp_isN, cmp_isnotN, Lr.eq_int, Lr.ne_int, Lr.len_lst, Lr.len_tup, tuple_lst, tuple_tup, list_lst, list_tup, int_bl, bi_len, bi_tuple, bi_list, bi_int, bi_join, bi_any, bi_all, bi_index, bi_sorted, bi_min1, bi_max1, bi_max2, bi_abs, bi_sum, bi_split, idx_lst, idx_tup, Lr.sl_lst, Lr.sl_tup, and_t', and_f, or_f', or_t, blo, chain_f, chain_t, not_b, neg_i, cond_t, cond_f, rng1, rng2, list_of, part_i, seq_nx, seq_ret, seq_brk, seq_cont, if_t, if_f, own_some, own_val, own_non, sv_some, sv_none, bind_name, start0, Option.bind_some, Option.bind_none, Option.map_some, Option.map_none, List.map_cons, List.map_nil, List.length_cons, List.length_nil, List.replicate, List.cons_append, List.nil_append, List.getElem?_cons_zero, List.getElem?_cons_succ, List.set_cons_zero, List.set_cons_succ, Nat.reduceAdd, Nat.reduceSub, if_true, if_false, Bool.false_eq_true, reduceIte, decide_true, decide_false, Bool.not_true, Bool.not_false, tup_d, lst_d, sz0, sz1, sz2, sz3, sz4, sz5, bnd2, bnd2l, bnd3, set2, set3, abs_i, max2_i, lt_i, gt_i, le_i, ge_i, for_nil, sat_some, lo_nx, lo_cont, lo_brk, lo_ret, ax0, hh_eq]) ?_
    refine ret_sat ?_ rfl
    simp only [Mark.d, Mark.mir, cmpl, exs, ex, ev, evs, evPart, evIt, sealE, sealIt, rd_val, rd_own, rd_succ, Lr.add_int, Lr.sub_int, bin_add, bin_sub, bin_mul, bin_fdiv, bin_mod, cmp_eq, cmp_ne, cmp_lt, cmp_le, cmp_gt, cmp_ge, cmp_in, cmp_notin, cmp_isN, cmp_isnotN, Lr.eq_int, Lr.ne_int, Lr.len_lst, Lr.len_tup, tuple_lst, tuple_tup, list_lst, list_tup, int_bl, bi_len, bi_tuple, bi_list, bi_int, bi_join, bi_any, bi_all, bi_index, bi_sorted, bi_min1, bi_max1, bi_max2, bi_abs, bi_sum, bi_split, idx_lst, idx_tup, Lr.sl_lst, Lr.sl_tup, and_t', and_f, or_f', or_t, blo, chain_f, chain_t, not_b, neg_i, cond_t, cond_f, rng1, rng2, list_of, part_i, seq_nx, seq_ret, seq_brk, seq_cont, if_t, if_f, own_some, own_val, own_non, sv_some, sv_none, bind_name, start0, Option.bind_some, Option.bind_none, Option.map_some, Option.map_none, List.map_cons, List.map_nil, List.length_cons, List.length_nil, List.replicate, List.cons_append, List.nil_append, List.getElem?_cons_zero, List.getElem?_cons_succ, List.set_cons_zero, List.set_cons_succ, Nat.reduceAdd, Nat.reduceSub, if_true, if_false, Bool.false_eq_true, reduceIte, decide_true, decide_false, Bool.not_true, Bool.not_false, tup_d, lst_d, sz0, sz1, sz2, sz3, sz4, sz5, bnd2, bnd2l, bnd3, set2, set3, abs_i, max2_i, lt_i, gt_i, le_i, ge_i, for_nil, sat_some, lo_nx, lo_cont, lo_brk, lo_ret, ax3, a4, cutp3, Lr.add_tup, sz_ok (show 5 ≤ 16777216 by decide), sz_ok (show 2 ≤ 16777216 by decide), sz_ok (show 3 ≤ 16777216 by decide)]
  | line r =>
    refine ife_f (by simp only [Mark.d, d_law_other_side, cmpl, exs, ex, ev, evs, evPart, evIt, sealE, sealIt, rd_val, rd_own, rd_succ, Lr.add_int, Lr.sub_int, bin_add, bin_sub, bin_mul, bin_fdiv, bin_mod, cmp_eq, cmp_ne, cmp_lt, cmp_le, cmp_gt, cmp_ge, cmp_in, cmp_notin, cmp_isN, cmp_isnotN, Lr.eq_int, Lr.ne_int, Lr.len_lst, Lr.len_tup, tuple_lst, tuple_tup, list_lst, list_tup, int_bl, bi_len, bi_tuple, bi_list, bi_int, bi_join, bi_any, bi_all, bi_index, bi_sorted, bi_min1, bi_max1, bi_max2, bi_abs, bi_sum, bi_split, idx_lst, idx_tup, Lr.sl_lst, Lr.sl_tup, and_t', and_f, or_f', or_t, blo, chain_f, chain_t, not_b, neg_i, cond_t, cond_f, rng1, rng2, list_of, part_i, seq_nx, seq_ret, seq_brk, seq_cont, if_t, if_f, own_some, own_val, own_non, sv_some, sv_none, bind_name, start0, Option.bind_some, Option.bind_none, Option.map_some, Option.map_none, List.map_cons, List.map_nil, List.length_cons, List.length_nil, List.replicate, List.cons_append, List.nil_append, List.getElem?_cons_zero, List.getElem?_cons_succ, List.set_cons_zero, List.set_cons_succ, Nat.reduceAdd, Nat.reduceSub, if_true, if_false, Bool.false_eq_true, reduceIte, decide_true, decide_false, Bool.not_true, Bool.not_false, tup_d, lst_d, sz0, sz1, sz2, sz3, sz4, sz5, bnd2, bnd2l, bnd3, set2, set3, abs_i, max2_i, lt_i, gt_i, le_i, ge_i, for_nil, sat_some, lo_nx, lo_cont, lo_brk, lo_ret, ax0, li_eq]) ?_
    refine ife_f (by simp only [Mark.d, d_law_other_side, cmpl, exs, ex, ev, evs, evPart, evIt, sealE, sealIt, rd_val, rd_own, rd_succ, Lr.add_int, Lr.sub_int, bin_add, bin_sub, bin_mul, bin_fdiv, bin_mod, cmp_eq, cmp_ne, cmp_lt, cmp_le, cmp_gt, cmp_ge, cmp_in, cmp_notin, cmp_isN, cmp_isnotN, Lr.eq_int, Lr.ne_int, Lr.len_lst, Lr.len_tup, tuple_lst, tuple_tup, list_lst, list_tup, int_bl, bi_len, bi_tuple, bi_list, bi_int, bi_join, bi_any, bi_all, bi_index, bi_sorted, bi_min1, bi_max1, bi_max2, bi_abs, bi_sum, bi_split, idx_lst, idx_tup, Lr.sl_lst, Lr.sl_tup, and_t', and_f, or_f', or_t, blo, chain_f, chain_t, not_b, neg_i, cond_t, cond_f, rng1, rng2, list_of, part_i, seq_nx, seq_ret, seq_brk, seq_cont, if_t, if_f, own_some, own_val, own_non, sv_some, sv_none, bind_name, start0, Option.bind_some, Option.bind_none, Option.map_some, Option.map_none, List.map_cons, List.map_nil, List.length_cons, List.length_nil, List.replicate, List.cons_append, List.nil_append, List.getElem?_cons_zero, List.getElem?_cons_succ, List.set_cons_zero, List.set_cons_succ, Nat.reduceAdd, Nat.reduceSub, if_true, if_false, Bool.false_eq_true, reduceIte, decide_true, decide_false, Bool.not_true, Bool.not_false, tup_d, lst_d, sz0, sz1, sz2, sz3, sz4, sz5, bnd2, bnd2l, bnd3, set2, set3, abs_i, max2_i, lt_i, gt_i, le_i, ge_i, for_nil, sat_some, lo_nx, lo_cont, lo_brk, lo_ret, ax0, hli_eq]) ?_
    exact ret_sat rfl rfl
  | foot r =>
    refine ife_f (by simp only [Mark.d, d_law_other_side, cmpl, exs, ex, ev, evs, evPart, evIt, sealE, sealIt, rd_val, rd_own, rd_succ, Lr.add_int, Lr.sub_int, bin_add, bin_sub, bin_mul, bin_fdiv, bin_mod, cmp_eq, cmp_ne, cmp_lt, cmp_le, cmp_gt, cmp_ge, cmp_in, cmp_notin, cmp_isN, cmp_isnotN, Lr.eq_int, Lr.ne_int, Lr.len_lst, Lr.len_tup, tuple_lst, tuple_tup, list_lst, list_tup, int_bl, bi_len, bi_tuple, bi_list, bi_int, bi_join, bi_any, bi_all, bi_index, bi_sorted, bi_min1, bi_max1, bi_max2, bi_abs, bi_sum, bi_split, idx_lst, idx_tup, Lr.sl_lst, Lr.sl_tup, and_t', and_f, or_f', or_t, blo, chain_f, chain_t, not_b, neg_i, cond_t, cond_f, rng1, rng2, list_of, part_i, seq_nx, seq_ret, seq_brk, seq_cont, if_t, if_f, own_some, own_val, own_non, sv_some, sv_none, bind_name, start0, Option.bind_some, Option.bind_none, Option.map_some, Option.map_none, List.map_cons, List.map_nil, List.length_cons, List.length_nil, List.replicate, List.cons_append, List.nil_append, List.getElem?_cons_zero, List.getElem?_cons_succ, List.set_cons_zero, List.set_cons_succ, Nat.reduceAdd, Nat.reduceSub, if_true, if_false, Bool.false_eq_true, reduceIte, decide_true, decide_false, Bool.not_true, Bool.not_false, tup_d, lst_d, sz0, sz1, sz2, sz3, sz4, sz5, bnd2, bnd2l, bnd3, set2, set3, abs_i, max2_i, lt_i, gt_i, le_i, ge_i, for_nil, sat_some, lo_nx, lo_cont, lo_brk, lo_ret, ax0, lf_eq]) ?_
    refine ife_f (by simp only [Mark.d, d_law_other_side, cmpl, exs, ex, ev, evs, evPart, evIt, sealE, sealIt, rd_val, rd_own, rd_succ, Lr.add_int, Lr.sub_int, bin_add, bin_sub, bin_mul, bin_fdiv, bin_mod, cmp_eq, cmp_ne, cmp_lt, cmp_le, cmp_gt, cmp_ge, cmp_in, cmp_notin, cmp_isN, cmp_isnotN, Lr.eq_int, Lr.ne_int, Lr.len_lst, Lr.len_tup, tuple_lst, tuple_tup, list_lst, list_tup, int_bl, bi_len, bi_tuple, bi_list, bi_int, bi_join, bi_any, bi_all, bi_index, bi_sorted, bi_min1, bi_max1, bi_max2, bi_abs, bi_sum, bi_split, idx_lst, idx_tup, Lr.sl_lst, Lr.sl_tup, and_t', and_f, or_f', or_t, blo, chain_f, chain_t, not_b, neg_i, cond_t, cond_f, rng1, rng2, list_of, part_i, seq_nx, seq_ret, seq_brk, seq_cont, if_t, if_f, own_some, own_val, own_non, sv_some, sv_none, bind_name, start0, Option.bind_some, Option.bind_none, Option.map_some, Option.map_none, List.map_cons, List.map_nil, List.length_cons, List.length_nil, List.replicate, List.cons_append, List.nil_append, List.getElem?_cons_zero, List.getElem?_cons_succ, List.set_cons_zero, List.set_cons_succ, Nat.reduceAdd, Nat.reduceSub, if_true, if_false, Bool.false_eq_true, reduceIte, decide_true, decide_false, Bool.not_true, Bool.not_false, tup_d, lst_d, sz0, sz1, sz2, sz3, sz4, sz5, bnd2, bnd2l, bnd3, set2, set3, abs_i, max2_i, lt_i, gt_i, le_i, ge_i, for_nil, sat_some, lo_nx, lo_cont, lo_brk, lo_ret, ax0, hf_eq]) ?_
    exact ret_sat rfl rfl
mutual
theorem ok_up {hs : List Str} : ∀ {n m : Nat} {x : Stp}, n ≤ m → x.ok hs n → x.ok hs m
  | n, m, .tell a b w, _, h => by
    obtain ⟨h1, h2, h3⟩ := ok_tell h
    cases m <;> (unfold Stp.ok; exact ⟨h1, h2, h3⟩)
  | 0, m, .choice bs, _, h => by unfold Stp.ok at h; exact h.elim
  | 0, m, .round s, _, h => by unfold Stp.ok at h; exact h.elim
  | 0, m, .both s t, _, h => by unfold Stp.ok at h; exact h.elim
  | n + 1, 0, _, hm, _ => absurd hm (by omega)
  | n + 1, m + 1, .choice bs, hm, h => by unfold Stp.ok at h ⊢; exact ⟨h.1, h.2.1, brs_up (by omega) h.2.2⟩
  | n + 1, m + 1, .round s, hm, h => by unfold Stp.ok at h ⊢; exact ⟨h.1, sts_up (by omega) h.2⟩
  | n + 1, m + 1, .both s t, hm, h => by unfold Stp.ok at h ⊢; exact ⟨h.1, sts_up (by omega) h.2.1, h.2.2.1, sts_up (by omega) h.2.2.2⟩
theorem sts_up {hs : List Str} : ∀ {n m : Nat} {s : List Stp}, n ≤ m → stsOk hs n s → stsOk hs m s
  | n, m, [], _, h => by unfold stsOk; trivial
  | n, m, x :: s, hm, h => by unfold stsOk at h ⊢; exact ⟨ok_up hm h.1, sts_up hm h.2⟩
theorem brs_up {hs : List Str} : ∀ {n m : Nat} {s : List (List Stp)}, n ≤ m → brsOk hs n s → brsOk hs m s
  | n, m, [], _, h => by unfold brsOk; trivial
  | n, m, x :: s, hm, h => by unfold brsOk at h ⊢; exact ⟨h.1, sts_up hm h.2.1, brs_up hm h.2.2⟩
end
theorem sts_app {hs : List Str} {n : Nat} {s t : List Stp} (h1 : stsOk hs n s) (h2 : stsOk hs n t) : stsOk hs n (s ++ t) :=
  stsOk_all.mpr fun x hx => (List.mem_append.mp hx).elim (stsOk_all.mp h1 x) (stsOk_all.mp h2 x)
theorem sts_one {hs : List Str} {n : Nat} {x : Stp} (h : x.ok hs n) : stsOk hs n [x] := by unfold stsOk; exact ⟨h, by unfold stsOk; trivial⟩
/-! ### cuts -/
theorem cut_mid {α : Type} (A B C : List α) : cutA (A ++ (B ++ C)) (some (A.length : Nat)) (some (A.length + B.length : Nat)) = B := by
  unfold cutA
  rw [HT.sIx_nat, HT.sIx_nat]
  have h1 : min A.length (A ++ (B ++ C)).length = A.length := by simp
  have h2 : min (A.length + B.length) (A ++ (B ++ C)).length = A.length + B.length := by simp
  rw [h1, h2]
  simp
theorem cut_last {α : Type} (A B : List α) (x : α) : cutA (A ++ (B ++ [x])) (some (A.length : Nat)) (some (-1)) = B := by
  unfold cutA
  rw [HT.sIx_nat]
  have h1 : min A.length (A ++ (B ++ [x])).length = A.length := by simp
  have h2 : HT.sIx (A ++ (B ++ [x])).length (A ++ (B ++ [x])).length (some (-1)) = A.length + B.length := by
    show (if (-1 : Int) < 0 then ((-1 : Int) + ((A ++ (B ++ [x])).length : Nat)).toNat else min (-1 : Int).toNat (A ++ (B ++ [x])).length) = _
    rw [if_pos (by decide)]
    simp only [List.length_append, List.length_singleton]
    omega
  rw [h1, h2]
  simp
end
end Lr
namespace Lr
open PySem PySem.Spec PyProof.Rows L2
section
variable {T : Tab} {g : Str → Option PyData} {fu : Nat}
structure Two (T : Tab) : Prop extends Gen T where
  mixed : T "_law_mixed" = some d_law_mixed
  cell : T "_law_cell_at" = some d_law_cell_at
  two : T "_law_two" = some d_law_two
theorem two_ok (G : Two T) (k : Nat) (ns : List Int) : ∃ (hs : List Str) (s t : List Stp), callAt T g fu (k + 8) "_law_two" [.list (ns.map .int)] = some (.tuple [hsD hs, .tuple (stsD s), .tuple (stsD t)]) ∧ HandsOk hs ∧ s.length ≤ 2 ∧ t.length ≤ 2 ∧
    (∃ n, n ≤ 1 ∧ stsOk hs n s) ∧ ∃ n, n ≤ 1 ∧ stsOk hs n t := by
  have m0 : callAt T g fu (k + 7) "_law_mixed" [.list (ns.map .int), .int 0] = some (.int (mixedV ns 0)) := mixed_ok (g := g) (fu := fu) G.mixed G.cell (k + 5) ns 0
  have m1 : callAt T g fu (k + 7) "_law_mixed" [.list (ns.map .int), .int 1] = some (.int (mixedV ns 1)) := mixed_ok (g := g) (fu := fu) G.mixed G.cell (k + 5) ns 1
  have m2 : callAt T g fu (k + 7) "_law_mixed" [.list (ns.map .int), .int 2] = some (.int (mixedV ns 2)) := mixed_ok (g := g) (fu := fu) G.mixed G.cell (k + 5) ns 2
  generalize mixedV ns 0 = n0 at m0
  generalize mixedV ns 1 = n1 at m1
  generalize mixedV ns 2 = n2 at m2
  have hh : ∃ hs : List Str, atI [PyData.tuple [.str "a"], .tuple [.str "a", .str "bob"], .tuple [.str "c", .str "a", .str "bob"], .tuple [.str "d", .str "bob", .str "a", .str "c"]] (n0 % 4) = some (hsD hs) ∧ HandsOk hs := by
    have h4 : 0 ≤ n0 % 4 ∧ n0 % 4 < 4 := ⟨Int.emod_nonneg _ (by decide), Int.emod_lt_of_pos _ (by decide)⟩
    have : n0 % 4 = 0 ∨ n0 % 4 = 1 ∨ n0 % 4 = 2 ∨ n0 % 4 = 3 := by omega
    rcases this with e | e | e | e <;> rw [e]
    · exact ⟨["a"], rfl, ⟨by decide, by decide, by decide, by decide⟩⟩
    · exact ⟨["a", "bob"], rfl, ⟨by decide, by decide, by decide, by decide⟩⟩
    · exact ⟨["c", "a", "bob"], rfl, ⟨by decide, by decide, by decide, by decide⟩⟩
    · exact ⟨["d", "bob", "a", "c"], rfl, ⟨by decide, by decide, by decide, by decide⟩⟩
  obtain ⟨hs, hat, ho⟩ := hh
  have hst : ∀ (n j : Int), ∃ s : List Stp, callAt T g fu (k + 7) "_law_steps" [.int n, hsD hs, .int (j % 2), .int 2] = some (.tuple (stsD s)) ∧ s.length ≤ 2 ∧ ∃ m, m ≤ 1 ∧ stsOk hs m s := fun n j => by
    have h2 : 0 ≤ j % 2 ∧ j % 2 < 2 := ⟨Int.emod_nonneg _ (by decide), Int.emod_lt_of_pos _ (by decide)⟩
    have : j % 2 = ((0 : Nat) : Int) ∨ j % 2 = ((1 : Nat) : Int) := by omega
    rcases this with e | e <;> rw [e]
    · obtain ⟨s, h1, h2, h3⟩ := steps_ok (g := g) (fu := fu) G.toGen ho.pos 0 (k + 3) n 2 (by decide)
      exact ⟨s, h1, h2, 0, by decide, h3⟩
    · obtain ⟨s, h1, h2, h3⟩ := steps_ok (g := g) (fu := fu) G.toGen ho.pos 1 (k + 1) n 2 (by decide)
      exact ⟨s, h1, h2, 1, by decide, h3⟩
  obtain ⟨s, s1, s2, s3⟩ := hst n1 (n0 / 4)
  obtain ⟨t, t1, t2, t3⟩ := hst n2 (n0 / 16)
  refine ⟨hs, s, t, call_at G.two rfl ?_, ho, s2, t2, s3, t3⟩
  simp only [d_law_two, exs, ex, ev, evs, evPart, evIt, sealE, sealIt, rd_val, rd_own, rd_succ, Lr.add_int, Lr.sub_int, fdiv_int, Lr.mod_int, bin_add, bin_sub, bin_mul, bin_fdiv, bin_mod, cmp_eq, cmp_ne, cmp_lt, cmp_le, cmp_gt, cmp_ge, cmp_in, cmp_notin, cmp_isN, cmp_isnotN, Lr.eq_int, Lr.ne_int, Lr.len_lst, Lr.len_tup, tuple_lst, tuple_tup, list_lst, list_tup, int_bl, bi_len, bi_tuple, bi_list, bi_int, bi_join, bi_any, bi_all, idx_lst, idx_tup, Lr.sl_lst, Lr.sl_tup, and_t, and_f, or_f, or_t, not_b, neg_i, cond_t, cond_f, rng1, rng2, list_of, part_i, seq_nx, seq_ret, seq_brk, seq_cont, if_t, if_f, own_some, own_val, own_non, sv_some, sv_none, bind_name, start0, Option.bind_some, Option.bind_none, Option.map_some, Option.map_none, List.map_cons, List.map_nil, List.length_cons, List.length_nil, List.replicate, List.cons_append, List.nil_append, List.getElem?_cons_zero, List.getElem?_cons_succ, List.set_cons_zero, List.set_cons_succ, Nat.reduceAdd, Nat.reduceSub, if_true, if_false, Bool.false_eq_true, reduceIte, decide_true, decide_false, Bool.and_self, Bool.and_true, Bool.true_and, Int.reduceLT, Int.reduceNeg, Nat.reduceLeDiff, m0, m1, m2, tup_d, sz1, sz2, sz3, sz4, hat, s1, t1]
end
end Lr
namespace Lr
open PySem PySem.Spec PyProof.Rows L2
section
variable {T : Tab} {g : Str → Option PyData} {fu : Nat}
structure All42 (T : Tab) : Prop where
  two : Two T
  unl : Unl T
  lower : T "_law_lower" = some d_law_lower
  side : T "_law_other_side" = some d_law_other_side
  law : T "law" = some d_law_k42
theorem rev_hs (hs : List Str) : revEv (hsD hs) = some (hsD hs.reverse) := by
  show some (PyData.tuple (hs.map PyData.str).reverse) = _
  rw [← List.map_reverse]
  rfl
theorem k42_pure (A : All42 T) (G : Glob g) (hg : g "DEEPEST" = some (.int 3)) (ns : List Int) : callAt T g fu 70 "law" [.list (ns.map .int)] = some (.bool true) := by
  obtain ⟨hs, s, t, h2, ho, hls, hlt, ⟨ns', hn1, hs1⟩, nt', hn2, ht1⟩ := two_ok (g := g) (fu := fu) A.two 61 ns
  have hs1 := sts_up (m := 1) hn1 hs1
  have ht1 := sts_up (m := 1) hn2 ht1
  have h2 : callAt T g fu 69 "_law_two" [.list (ns.map .int)] = some (.tuple [hsD hs, .tuple (stsD s), .tuple (stsD t)]) := h2
  have few := ho.few
  have pos := ho.pos
  -- what is laid of a talk
  have lay : ∀ {hs : List Str} {n : Nat} {u : List Stp}, HandsOk hs → n ≤ 3 → u.length ≤ 4 → stsOk hs n u → callAt T g fu 69 "laid" [.tuple [hsD hs, .tuple (stsD u)]] = some (.tuple ((stsMarks hs 0 u).map Mark.d)) ∧ callAt T g fu 69 "height" [.tuple [hsD hs, .tuple (stsD u)]] = some (.int (stsRows u : Nat)) ∧ stsRows u ≤ 200000 ∧ ∀ row, ∀ m ∈ stsMarks hs row u, Lay 1 m.d := fun {hs n u} ho hn hl h => by
    obtain ⟨l1, l2⟩ := unl_letters h
    have hsz : stsSize u ≤ 200000 := Nat.le_trans (stsOk_size n u hl h) (szN4 (by omega))
    have := stsRows_size u
    have few := ho.few
    exact ⟨laid_ok A.unl.lay (by omega) (n := n) (stsOk_deep h) (by omega) (by omega) l1, height_ok A.unl.lay (by omega) (n := n) (stsOk_deep h) (by omega) (by omega) l1, by omega, fun row => sts_lay hs u row l2⟩
  obtain ⟨ls, hhs, rs, ms⟩ := lay ho (n := 1) (by decide) (show s.length ≤ 4 by omega) hs1
  obtain ⟨lt, hht, rt, mt⟩ := lay ho (n := 1) (by decide) (show t.length ≤ 4 by omega) ht1
  have hw := sts_app hs1 ht1
  obtain ⟨lw, hhw, rw_, mw⟩ := lay ho (n := 1) (by decide) (show (s ++ t).length ≤ 4 by rw [List.length_append]; omega) hw
  have he : stsOk hs 2 [.choice [s, t]] := sts_one (by unfold Stp.ok; exact ⟨by simp, by simp, by unfold brsOk; exact ⟨by omega, hs1, by unfold brsOk; exact ⟨by omega, ht1, by unfold brsOk; trivial⟩⟩⟩)
  have hb : stsOk hs 2 [.both s t] := sts_one (by unfold Stp.ok; exact ⟨by omega, hs1, by omega, ht1⟩)
  have hr : stsOk hs 2 [.round s] := sts_one (by unfold Stp.ok; exact ⟨by omega, hs1⟩)
  obtain ⟨le, hhe, re, me⟩ := lay ho (n := 2) (by decide) (show [Stp.choice [s, t]].length ≤ 4 by simp) he
  obtain ⟨lb, hhb, rb, mb⟩ := lay ho (n := 2) (by decide) (show [Stp.both s t].length ≤ 4 by simp) hb
  obtain ⟨lr, hhr, rr, mr⟩ := lay ho (n := 2) (by decide) (show [Stp.round s].length ≤ 4 by simp) hr
  -- their marks
  obtain ⟨hd, ehd⟩ : ∃ hd : Mark, hd = .head ((0 : Nat) : Int) "choice" (frame hs (brsLets [s, t])).1 (frame hs (brsLets [s, t])).2 := ⟨_, rfl⟩
  obtain ⟨hd2, ehd2⟩ : ∃ hd : Mark, hd = .head ((0 : Nat) : Int) "both" (frame hs (stsLets s ++ stsLets t)).1 (frame hs (stsLets s ++ stsLets t)).2 := ⟨_, rfl⟩
  obtain ⟨hd3, ehd3⟩ : ∃ hd : Mark, hd = .head ((0 : Nat) : Int) "round" (frame hs (stsLets s)).1 (frame hs (stsLets s)).2 := ⟨_, rfl⟩
  have eM : stsMarks hs 0 [.choice [s, t]] = hd :: (stsMarks hs 1 s ++ .line (stsRows s + 1 : Nat) :: (stsMarks hs (stsRows s + 2) t ++ [.foot (stsRows s + stsRows t + 2 : Nat)])) := by
    simp only [stsMarks, Stp.marks, brsMarks, brsRows, ehd, List.append_nil, List.append_assoc, List.cons_append, Nat.zero_add]
    rw [show 1 + stsRows s = stsRows s + 1 by omega, show stsRows s + 1 + 1 = stsRows s + 2 by omega, show 1 + (stsRows s + (stsRows t + 0 + 1)) = stsRows s + stsRows t + 2 by omega]
  have eB : stsMarks hs 0 [.both s t] = hd2 :: (stsMarks hs 1 s ++ .line (stsRows s + 1 : Nat) :: (stsMarks hs (stsRows s + 2) t ++ [.foot (stsRows s + stsRows t + 2 : Nat)])) := by
    simp only [stsMarks, Stp.marks, ehd2, List.append_nil, List.append_assoc, List.cons_append, Nat.zero_add]
    rw [show 1 + stsRows s = stsRows s + 1 by omega, show stsRows s + 1 + 1 = stsRows s + 2 by omega, show stsRows s + 2 + stsRows t = stsRows s + stsRows t + 2 by omega]
  have eR : stsMarks hs 0 [.round s] = hd3 :: (stsMarks hs 1 s ++ [.foot (stsRows s + 1 : Nat)]) := by
    simp only [stsMarks, Stp.marks, ehd3, List.append_nil, Nat.zero_add]
    rw [show 1 + stsRows s = stsRows s + 1 by omega]
  have low : ∀ {u : List Stp} (k : Nat), stsRows u ≤ 1000000 → callAt T g fu 69 "_law_lower" [.tuple ((stsMarks hs 0 u).map Mark.d), .int (k : Nat)] = some (.tuple ((stsMarks hs k u).map Mark.d)) := fun {u} k hu => by
    have := lower_ok (g := g) (fu := fu) A.lower (M := stsMarks hs 0 u) (by rw [stsMarks_len]; exact hu) (b := (k : Nat)) (k := 69) (by decide)
    rw [← sts_low hs k u 0, Nat.zero_add] at this
    exact this
  have lay2 : ∀ {M : List Mark}, (∀ m ∈ M, Lay 1 m.d) → neEv (.tuple (M.map Mark.d)) (.tuple (M.map Mark.d)) = some false := fun h => ne_same (lay_map h) (by decide)
  refine call_sat (df := d_law_k42) A.law rfl ?_
  refine stp_sat (by simp only [d_law_k42, cmpl, exs, ex, ev, evs, evPart, evIt, sealE, sealIt, rd_val, rd_own, rd_succ, Lr.add_int, Lr.sub_int, bin_add, bin_sub, bin_mul, bin_fdiv, bin_mod, cmp_eq, cmp_ne, cmp_lt, cmp_le, cmp_gt, cmp_ge, cmp_in, cmp_notin, cmp_isN, cmp_isnotN, Lr.eq_int, Lr.ne_int, Lr.len_lst, Lr.len_tup, tuple_lst, tuple_tup, list_lst, list_tup, int_bl, bi_len, bi_tuple, bi_list, bi_int, bi_join, bi_any, bi_all, bi_index, bi_sorted, bi_min1, bi_max1, bi_max2, bi_abs, bi_sum, bi_split, idx_lst, idx_tup, Lr.sl_lst, Lr.sl_tup, and_t', and_f, or_f', or_t, blo, chain_f, chain_t, not_b, neg_i, cond_t, cond_f, rng1, rng2, list_of, part_i, seq_nx, seq_ret, seq_brk, seq_cont, if_t, if_f, own_some, own_val, own_non, sv_some, sv_none, bind_name, start0, Option.bind_some, Option.bind_none, Option.map_some, Option.map_none, List.map_cons, List.map_nil, List.length_cons, List.length_nil, List.replicate, List.cons_append, List.nil_append, List.getElem?_cons_zero, List.getElem?_cons_succ, List.set_cons_zero, List.set_cons_succ, Nat.reduceAdd, Nat.reduceSub, if_true, if_false, Bool.false_eq_true, reduceIte, decide_true, decide_false, Bool.not_true, Bool.not_false, tup_d, lst_d, sz0, sz1, sz2, sz3, sz4, sz5, bnd2, bnd2l, bnd3, set2, set3, abs_i, max2_i, lt_i, gt_i, le_i, ge_i, for_nil, sat_some, lo_nx, lo_cont, lo_brk, lo_ret, h2]; rfl) ?_
  refine stp_sat (by simp only [cmpl, exs, ex, ev, evs, evPart, evIt, sealE, sealIt, rd_val, rd_own, rd_succ, Lr.add_int, Lr.sub_int, bin_add, bin_sub, bin_mul, bin_fdiv, bin_mod, cmp_eq, cmp_ne, cmp_lt, cmp_le, cmp_gt, cmp_ge, cmp_in, cmp_notin, cmp_isN, cmp_isnotN, Lr.eq_int, Lr.ne_int, Lr.len_lst, Lr.len_tup, tuple_lst, tuple_tup, list_lst, list_tup, int_bl, bi_len, bi_tuple, bi_list, bi_int, bi_join, bi_any, bi_all, bi_index, bi_sorted, bi_min1, bi_max1, bi_max2, bi_abs, bi_sum, bi_split, idx_lst, idx_tup, Lr.sl_lst, Lr.sl_tup, and_t', and_f, or_f', or_t, blo, chain_f, chain_t, not_b, neg_i, cond_t, cond_f, rng1, rng2, list_of, part_i, seq_nx, seq_ret, seq_brk, seq_cont, if_t, if_f, own_some, own_val, own_non, sv_some, sv_none, bind_name, start0, Option.bind_some, Option.bind_none, Option.map_some, Option.map_none, List.map_cons, List.map_nil, List.length_cons, List.length_nil, List.replicate, List.cons_append, List.nil_append, List.getElem?_cons_zero, List.getElem?_cons_succ, List.set_cons_zero, List.set_cons_succ, Nat.reduceAdd, Nat.reduceSub, if_true, if_false, Bool.false_eq_true, reduceIte, decide_true, decide_false, Bool.not_true, Bool.not_false, tup_d, lst_d, sz0, sz1, sz2, sz3, sz4, sz5, bnd2, bnd2l, bnd3, set2, set3, abs_i, max2_i, lt_i, gt_i, le_i, ge_i, for_nil, sat_some, lo_nx, lo_cont, lo_brk, lo_ret]; rfl) ?_
  refine stp_sat (by simp only [cmpl, exs, ex, ev, evs, evPart, evIt, sealE, sealIt, rd_val, rd_own, rd_succ, Lr.add_int, Lr.sub_int, bin_add, bin_sub, bin_mul, bin_fdiv, bin_mod, cmp_eq, cmp_ne, cmp_lt, cmp_le, cmp_gt, cmp_ge, cmp_in, cmp_notin, cmp_isN, cmp_isnotN, Lr.eq_int, Lr.ne_int, Lr.len_lst, Lr.len_tup, tuple_lst, tuple_tup, list_lst, list_tup, int_bl, bi_len, bi_tuple, bi_list, bi_int, bi_join, bi_any, bi_all, bi_index, bi_sorted, bi_min1, bi_max1, bi_max2, bi_abs, bi_sum, bi_split, idx_lst, idx_tup, Lr.sl_lst, Lr.sl_tup, and_t', and_f, or_f', or_t, blo, chain_f, chain_t, not_b, neg_i, cond_t, cond_f, rng1, rng2, list_of, part_i, seq_nx, seq_ret, seq_brk, seq_cont, if_t, if_f, own_some, own_val, own_non, sv_some, sv_none, bind_name, start0, Option.bind_some, Option.bind_none, Option.map_some, Option.map_none, List.map_cons, List.map_nil, List.length_cons, List.length_nil, List.replicate, List.cons_append, List.nil_append, List.getElem?_cons_zero, List.getElem?_cons_succ, List.set_cons_zero, List.set_cons_succ, Nat.reduceAdd, Nat.reduceSub, if_true, if_false, Bool.false_eq_true, reduceIte, decide_true, decide_false, Bool.not_true, Bool.not_false, tup_d, lst_d, sz0, sz1, sz2, sz3, sz4, sz5, bnd2, bnd2l, bnd3, set2, set3, abs_i, max2_i, lt_i, gt_i, le_i, ge_i, for_nil, sat_some, lo_nx, lo_cont, lo_brk, lo_ret, hhs]; rfl) ?_
  have eadd : addEv (.tuple (stsD s)) (.tuple (stsD t)) = some (.tuple (stsD (s ++ t))) := by
    rw [addT (by rw [stsD_len, stsD_len]; omega), stsD_app]
  refine stp_sat (by simp only [cmpl, exs, ex, ev, evs, evPart, evIt, sealE, sealIt, rd_val, rd_own, rd_succ, Lr.add_int, Lr.sub_int, bin_add, bin_sub, bin_mul, bin_fdiv, bin_mod, cmp_eq, cmp_ne, cmp_lt, cmp_le, cmp_gt, cmp_ge, cmp_in, cmp_notin, cmp_isN, cmp_isnotN, Lr.eq_int, Lr.ne_int, Lr.len_lst, Lr.len_tup, tuple_lst, tuple_tup, list_lst, list_tup, int_bl, bi_len, bi_tuple, bi_list, bi_int, bi_join, bi_any, bi_all, bi_index, bi_sorted, bi_min1, bi_max1, bi_max2, bi_abs, bi_sum, bi_split, idx_lst, idx_tup, Lr.sl_lst, Lr.sl_tup, and_t', and_f, or_f', or_t, blo, chain_f, chain_t, not_b, neg_i, cond_t, cond_f, rng1, rng2, list_of, part_i, seq_nx, seq_ret, seq_brk, seq_cont, if_t, if_f, own_some, own_val, own_non, sv_some, sv_none, bind_name, start0, Option.bind_some, Option.bind_none, Option.map_some, Option.map_none, List.map_cons, List.map_nil, List.length_cons, List.length_nil, List.replicate, List.cons_append, List.nil_append, List.getElem?_cons_zero, List.getElem?_cons_succ, List.set_cons_zero, List.set_cons_succ, Nat.reduceAdd, Nat.reduceSub, if_true, if_false, Bool.false_eq_true, reduceIte, decide_true, decide_false, Bool.not_true, Bool.not_false, tup_d, lst_d, sz0, sz1, sz2, sz3, sz4, sz5, bnd2, bnd2l, bnd3, set2, set3, abs_i, max2_i, lt_i, gt_i, le_i, ge_i, for_nil, sat_some, lo_nx, lo_cont, lo_brk, lo_ret, eadd]; rfl) ?_
  have n1 : ((stsRows (s ++ t) : Nat) : Int) = ((stsRows s : Nat) : Int) + ((stsRows t : Nat) : Int) := by rw [stsRows_app]; omega
  have eW : stsMarks hs 0 (s ++ t) = stsMarks hs 0 s ++ stsMarks hs (stsRows s) t := by rw [stsMarks_app, Nat.zero_add]
  have eadd2 : addEv (.tuple ((stsMarks hs 0 s).map Mark.d)) (.tuple ((stsMarks hs (stsRows s) t).map Mark.d)) = some (.tuple ((stsMarks hs 0 (s ++ t)).map Mark.d)) := by
    rw [eW, List.map_append, Lr.add_tup, sz_ok (by simp only [List.length_map, stsMarks_len]; omega)]
    rfl
  have lowt := low (u := t) (stsRows s) (by omega)
  refine ife_f (by simp only [cmpl, exs, ex, ev, evs, evPart, evIt, sealE, sealIt, rd_val, rd_own, rd_succ, Lr.add_int, Lr.sub_int, bin_add, bin_sub, bin_mul, bin_fdiv, bin_mod, cmp_eq, cmp_ne, cmp_lt, cmp_le, cmp_gt, cmp_ge, cmp_in, cmp_notin, cmp_isN, cmp_isnotN, Lr.eq_int, Lr.ne_int, Lr.len_lst, Lr.len_tup, tuple_lst, tuple_tup, list_lst, list_tup, int_bl, bi_len, bi_tuple, bi_list, bi_int, bi_join, bi_any, bi_all, bi_index, bi_sorted, bi_min1, bi_max1, bi_max2, bi_abs, bi_sum, bi_split, idx_lst, idx_tup, Lr.sl_lst, Lr.sl_tup, and_t', and_f, or_f', or_t, blo, chain_f, chain_t, not_b, neg_i, cond_t, cond_f, rng1, rng2, list_of, part_i, seq_nx, seq_ret, seq_brk, seq_cont, if_t, if_f, own_some, own_val, own_non, sv_some, sv_none, bind_name, start0, Option.bind_some, Option.bind_none, Option.map_some, Option.map_none, List.map_cons, List.map_nil, List.length_cons, List.length_nil, List.replicate, List.cons_append, List.nil_append, List.getElem?_cons_zero, List.getElem?_cons_succ, List.set_cons_zero, List.set_cons_succ, Nat.reduceAdd, Nat.reduceSub, if_true, if_false, Bool.false_eq_true, reduceIte, decide_true, decide_false, Bool.not_true, Bool.not_false, tup_d, lst_d, sz0, sz1, sz2, sz3, sz4, sz5, bnd2, bnd2l, bnd3, set2, set3, abs_i, max2_i, lt_i, gt_i, le_i, ge_i, for_nil, sat_some, lo_nx, lo_cont, lo_brk, lo_ret, hhw, hht, lw, ls, lt, lowt, eadd2, lay2 (mw 0), n1]; try rfl) ?_
  refine stp_sat (by simp only [cmpl, exs, ex, ev, evs, evPart, evIt, sealE, sealIt, rd_val, rd_own, rd_succ, Lr.add_int, Lr.sub_int, bin_add, bin_sub, bin_mul, bin_fdiv, bin_mod, cmp_eq, cmp_ne, cmp_lt, cmp_le, cmp_gt, cmp_ge, cmp_in, cmp_notin, cmp_isN, cmp_isnotN, Lr.eq_int, Lr.ne_int, Lr.len_lst, Lr.len_tup, tuple_lst, tuple_tup, list_lst, list_tup, int_bl, bi_len, bi_tuple, bi_list, bi_int, bi_join, bi_any, bi_all, bi_index, bi_sorted, bi_min1, bi_max1, bi_max2, bi_abs, bi_sum, bi_split, idx_lst, idx_tup, Lr.sl_lst, Lr.sl_tup, and_t', and_f, or_f', or_t, blo, chain_f, chain_t, not_b, neg_i, cond_t, cond_f, rng1, rng2, list_of, part_i, seq_nx, seq_ret, seq_brk, seq_cont, if_t, if_f, own_some, own_val, own_non, sv_some, sv_none, bind_name, start0, Option.bind_some, Option.bind_none, Option.map_some, Option.map_none, List.map_cons, List.map_nil, List.length_cons, List.length_nil, List.replicate, List.cons_append, List.nil_append, List.getElem?_cons_zero, List.getElem?_cons_succ, List.set_cons_zero, List.set_cons_succ, Nat.reduceAdd, Nat.reduceSub, if_true, if_false, Bool.false_eq_true, reduceIte, decide_true, decide_false, Bool.not_true, Bool.not_false, tup_d, lst_d, sz0, sz1, sz2, sz3, sz4, sz5, bnd2, bnd2l, bnd3, set2, set3, abs_i, max2_i, lt_i, gt_i, le_i, ge_i, for_nil, sat_some, lo_nx, lo_cont, lo_brk, lo_ret]; rfl) ?_
  refine stp_sat (by simp only [cmpl, exs, ex, ev, evs, evPart, evIt, sealE, sealIt, rd_val, rd_own, rd_succ, Lr.add_int, Lr.sub_int, bin_add, bin_sub, bin_mul, bin_fdiv, bin_mod, cmp_eq, cmp_ne, cmp_lt, cmp_le, cmp_gt, cmp_ge, cmp_in, cmp_notin, cmp_isN, cmp_isnotN, Lr.eq_int, Lr.ne_int, Lr.len_lst, Lr.len_tup, tuple_lst, tuple_tup, list_lst, list_tup, int_bl, bi_len, bi_tuple, bi_list, bi_int, bi_join, bi_any, bi_all, bi_index, bi_sorted, bi_min1, bi_max1, bi_max2, bi_abs, bi_sum, bi_split, idx_lst, idx_tup, Lr.sl_lst, Lr.sl_tup, and_t', and_f, or_f', or_t, blo, chain_f, chain_t, not_b, neg_i, cond_t, cond_f, rng1, rng2, list_of, part_i, seq_nx, seq_ret, seq_brk, seq_cont, if_t, if_f, own_some, own_val, own_non, sv_some, sv_none, bind_name, start0, Option.bind_some, Option.bind_none, Option.map_some, Option.map_none, List.map_cons, List.map_nil, List.length_cons, List.length_nil, List.replicate, List.cons_append, List.nil_append, List.getElem?_cons_zero, List.getElem?_cons_succ, List.set_cons_zero, List.set_cons_succ, Nat.reduceAdd, Nat.reduceSub, if_true, if_false, Bool.false_eq_true, reduceIte, decide_true, decide_false, Bool.not_true, Bool.not_false, tup_d, lst_d, sz0, sz1, sz2, sz3, sz4, sz5, bnd2, bnd2l, bnd3, set2, set3, abs_i, max2_i, lt_i, gt_i, le_i, ge_i, for_nil, sat_some, lo_nx, lo_cont, lo_brk, lo_ret]; rfl) ?_
  refine stp_sat (by simp only [cmpl, exs, ex, ev, evs, evPart, evIt, sealE, sealIt, rd_val, rd_own, rd_succ, Lr.add_int, Lr.sub_int, bin_add, bin_sub, bin_mul, bin_fdiv, bin_mod, cmp_eq, cmp_ne, cmp_lt, cmp_le, cmp_gt, cmp_ge, cmp_in, cmp_notin, cmp_isN, cmp_isnotN, Lr.eq_int, Lr.ne_int, Lr.len_lst, Lr.len_tup, tuple_lst, tuple_tup, list_lst, list_tup, int_bl, bi_len, bi_tuple, bi_list, bi_int, bi_join, bi_any, bi_all, bi_index, bi_sorted, bi_min1, bi_max1, bi_max2, bi_abs, bi_sum, bi_split, idx_lst, idx_tup, Lr.sl_lst, Lr.sl_tup, and_t', and_f, or_f', or_t, blo, chain_f, chain_t, not_b, neg_i, cond_t, cond_f, rng1, rng2, list_of, part_i, seq_nx, seq_ret, seq_brk, seq_cont, if_t, if_f, own_some, own_val, own_non, sv_some, sv_none, bind_name, start0, Option.bind_some, Option.bind_none, Option.map_some, Option.map_none, List.map_cons, List.map_nil, List.length_cons, List.length_nil, List.replicate, List.cons_append, List.nil_append, List.getElem?_cons_zero, List.getElem?_cons_succ, List.set_cons_zero, List.set_cons_succ, Nat.reduceAdd, Nat.reduceSub, if_true, if_false, Bool.false_eq_true, reduceIte, decide_true, decide_false, Bool.not_true, Bool.not_false, tup_d, lst_d, sz0, sz1, sz2, sz3, sz4, sz5, bnd2, bnd2l, bnd3, set2, set3, abs_i, max2_i, lt_i, gt_i, le_i, ge_i, for_nil, sat_some, lo_nx, lo_cont, lo_brk, lo_ret]; rfl) ?_
  simp only [stsD, Stp.d, brsD] at le hhe lb hhb lr hhr
  have r1 : ((stsRows [Stp.choice [s, t]] : Nat) : Int) = ((stsRows s : Nat) : Int) + ((stsRows t : Nat) : Int) + 3 := by simp [stsRows, Stp.rows, brsRows]; omega
  have r2 : ((stsRows [Stp.both s t] : Nat) : Int) = ((stsRows s : Nat) : Int) + ((stsRows t : Nat) : Int) + 3 := by simp [stsRows, Stp.rows]
  have r3 : ((stsRows [Stp.round s] : Nat) : Int) = ((stsRows s : Nat) : Int) + 2 := by simp [stsRows, Stp.rows]
  refine ife_f (by simp only [cmpl, exs, ex, ev, evs, evPart, evIt, sealE, sealIt, rd_val, rd_own, rd_succ, Lr.add_int, Lr.sub_int, bin_add, bin_sub, bin_mul, bin_fdiv, bin_mod, cmp_eq, cmp_ne, cmp_lt, cmp_le, cmp_gt, cmp_ge, cmp_in, cmp_notin, cmp_isN, cmp_isnotN, Lr.eq_int, Lr.ne_int, Lr.len_lst, Lr.len_tup, tuple_lst, tuple_tup, list_lst, list_tup, int_bl, bi_len, bi_tuple, bi_list, bi_int, bi_join, bi_any, bi_all, bi_index, bi_sorted, bi_min1, bi_max1, bi_max2, bi_abs, bi_sum, bi_split, idx_lst, idx_tup, Lr.sl_lst, Lr.sl_tup, and_t', and_f, or_f', or_t, blo, chain_f, chain_t, not_b, neg_i, cond_t, cond_f, rng1, rng2, list_of, part_i, seq_nx, seq_ret, seq_brk, seq_cont, if_t, if_f, own_some, own_val, own_non, sv_some, sv_none, bind_name, start0, Option.bind_some, Option.bind_none, Option.map_some, Option.map_none, List.map_cons, List.map_nil, List.length_cons, List.length_nil, List.replicate, List.cons_append, List.nil_append, List.getElem?_cons_zero, List.getElem?_cons_succ, List.set_cons_zero, List.set_cons_succ, Nat.reduceAdd, Nat.reduceSub, if_true, if_false, Bool.false_eq_true, reduceIte, decide_true, decide_false, Bool.not_true, Bool.not_false, tup_d, lst_d, sz0, sz1, sz2, sz3, sz4, sz5, bnd2, bnd2l, bnd3, set2, set3, abs_i, max2_i, lt_i, gt_i, le_i, ge_i, for_nil, sat_some, lo_nx, lo_cont, lo_brk, lo_ret, hhe, hhb, hhr, hht, r1, r2, r3]; try rfl) ?_
  refine stp_sat (by simp only [cmpl, exs, ex, ev, evs, evPart, evIt, sealE, sealIt, rd_val, rd_own, rd_succ, Lr.add_int, Lr.sub_int, bin_add, bin_sub, bin_mul, bin_fdiv, bin_mod, cmp_eq, cmp_ne, cmp_lt, cmp_le, cmp_gt, cmp_ge, cmp_in, cmp_notin, cmp_isN, cmp_isnotN, Lr.eq_int, Lr.ne_int, Lr.len_lst, Lr.len_tup, tuple_lst, tuple_tup, list_lst, list_tup, int_bl, bi_len, bi_tuple, bi_list, bi_int, bi_join, bi_any, bi_all, bi_index, bi_sorted, bi_min1, bi_max1, bi_max2, bi_abs, bi_sum, bi_split, idx_lst, idx_tup, Lr.sl_lst, Lr.sl_tup, and_t', and_f, or_f', or_t, blo, chain_f, chain_t, not_b, neg_i, cond_t, cond_f, rng1, rng2, list_of, part_i, seq_nx, seq_ret, seq_brk, seq_cont, if_t, if_f, own_some, own_val, own_non, sv_some, sv_none, bind_name, start0, Option.bind_some, Option.bind_none, Option.map_some, Option.map_none, List.map_cons, List.map_nil, List.length_cons, List.length_nil, List.replicate, List.cons_append, List.nil_append, List.getElem?_cons_zero, List.getElem?_cons_succ, List.set_cons_zero, List.set_cons_succ, Nat.reduceAdd, Nat.reduceSub, if_true, if_false, Bool.false_eq_true, reduceIte, decide_true, decide_false, Bool.not_true, Bool.not_false, tup_d, lst_d, sz0, sz1, sz2, sz3, sz4, sz5, bnd2, bnd2l, bnd3, set2, set3, abs_i, max2_i, lt_i, gt_i, le_i, ge_i, for_nil, sat_some, lo_nx, lo_cont, lo_brk, lo_ret, le]; rfl) ?_
  -- its parts
  have lows := low (u := s) 1 (by omega)
  have lowt2 := low (u := t) (stsRows s + 2) (by omega)
  have i1 : ((stsRows s : Nat) : Int) + 1 = ((stsRows s + 1 : Nat) : Int) := by omega
  have i2 : ((stsRows s : Nat) : Int) + 2 = ((stsRows s + 2 : Nat) : Int) := by omega
  have c1 : cutA ((stsMarks hs 0 [.choice [s, t]]).map Mark.d) (some 1) (some (stsRows s + 1 : Nat)) = (stsMarks hs 1 s).map Mark.d := by
    have := cut_mid [hd.d] ((stsMarks hs 1 s).map Mark.d) ((Mark.line (stsRows s + 1 : Nat) :: (stsMarks hs (stsRows s + 2) t ++ [.foot (stsRows s + stsRows t + 2 : Nat)])).map Mark.d)
    rw [List.length_singleton, List.length_map, stsMarks_len, Nat.add_comm 1] at this
    rw [eM]
    simpa using this
  have c2 : atI ((stsMarks hs 0 [.choice [s, t]]).map Mark.d) (stsRows s + 1 : Nat) = some (.tuple [.str "line", .int (stsRows s + 1 : Nat)]) := by
    show idxEv (.tuple ((stsMarks hs 0 [.choice [s, t]]).map Mark.d)) (.int (stsRows s + 1 : Nat)) = some (Mark.line (stsRows s + 1 : Nat)).d
    have := at_app (A := hd.d :: (stsMarks hs 1 s).map Mark.d) (x := (Mark.line (stsRows s + 1 : Nat)).d) (r := (stsMarks hs (stsRows s + 2) t ++ [Mark.foot (stsRows s + stsRows t + 2 : Nat)]).map Mark.d)
    rw [List.length_cons, List.length_map, stsMarks_len] at this
    rw [eM]
    simpa using this
  have c3 : cutA ((stsMarks hs 0 [.choice [s, t]]).map Mark.d) (some (stsRows s + 2 : Nat)) (some (-1)) = (stsMarks hs (stsRows s + 2) t).map Mark.d := by
    have := cut_last (hd.d :: ((stsMarks hs 1 s).map Mark.d ++ [(Mark.line (stsRows s + 1 : Nat)).d])) ((stsMarks hs (stsRows s + 2) t).map Mark.d) (Mark.foot (stsRows s + stsRows t + 2 : Nat)).d
    rw [List.length_cons, List.length_append, List.length_map, stsMarks_len, List.length_singleton, show stsRows s + 1 + 1 = stsRows s + 2 from rfl] at this
    rw [eM]
    simpa using this
  have c4 : cutA ((stsMarks hs 0 [.both s t]).map Mark.d) (some 1) none = cutA ((stsMarks hs 0 [.choice [s, t]]).map Mark.d) (some 1) none := by
    rw [eM, eB, List.map_cons, List.map_cons, cut1, cut1]
  have c5 : cutA ((stsMarks hs 0 [.round s]).map Mark.d) (some 1) (some (-1)) = (stsMarks hs 1 s).map Mark.d := by
    have := cut_last [hd3.d] ((stsMarks hs 1 s).map Mark.d) (Mark.foot (stsRows s + 1 : Nat)).d
    rw [eR]
    simpa using this
  have ln : neEv (.tuple [.str "line", .int (stsRows s + 1 : Nat)]) (.tuple [.str "line", .int (stsRows s + 1 : Nat)]) = some false := ne_same (lay_lineM (r := (stsRows s + 1 : Nat))) (by decide)
  have lows : callAt T g fu 69 "_law_lower" [.tuple ((stsMarks hs 0 s).map Mark.d), .int 1] = some (.tuple ((stsMarks hs 1 s).map Mark.d)) := lows
  refine ife_f (by simp only [cmpl, exs, ex, ev, evs, evPart, evIt, sealE, sealIt, rd_val, rd_own, rd_succ, Lr.add_int, Lr.sub_int, bin_add, bin_sub, bin_mul, bin_fdiv, bin_mod, cmp_eq, cmp_ne, cmp_lt, cmp_le, cmp_gt, cmp_ge, cmp_in, cmp_notin, cmp_isN, cmp_isnotN, Lr.eq_int, Lr.ne_int, Lr.len_lst, Lr.len_tup, tuple_lst, tuple_tup, list_lst, list_tup, int_bl, bi_len, bi_tuple, bi_list, bi_int, bi_join, bi_any, bi_all, bi_index, bi_sorted, bi_min1, bi_max1, bi_max2, bi_abs, bi_sum, bi_split, idx_lst, idx_tup, Lr.sl_lst, Lr.sl_tup, and_t', and_f, or_f', or_t, blo, chain_f, chain_t, not_b, neg_i, cond_t, cond_f, rng1, rng2, list_of, part_i, seq_nx, seq_ret, seq_brk, seq_cont, if_t, if_f, own_some, own_val, own_non, sv_some, sv_none, bind_name, start0, Option.bind_some, Option.bind_none, Option.map_some, Option.map_none, List.map_cons, List.map_nil, List.length_cons, List.length_nil, List.replicate, List.cons_append, List.nil_append, List.getElem?_cons_zero, List.getElem?_cons_succ, List.set_cons_zero, List.set_cons_succ, Nat.reduceAdd, Nat.reduceSub, if_true, if_false, Bool.false_eq_true, reduceIte, decide_true, decide_false, Bool.not_true, Bool.not_false, tup_d, lst_d, sz0, sz1, sz2, sz3, sz4, sz5, bnd2, bnd2l, bnd3, set2, set3, abs_i, max2_i, lt_i, gt_i, le_i, ge_i, for_nil, sat_some, lo_nx, lo_cont, lo_brk, lo_ret, i1, c1, c2, ls, lows, lay2 (ms 1), ln]; try rfl) ?_
  have c4n : neEv (.tuple (cutA ((stsMarks hs 0 [.choice [s, t]]).map Mark.d) (some 1) none)) (.tuple (cutA ((stsMarks hs 0 [.choice [s, t]]).map Mark.d) (some 1) none)) = some false := by
    rw [eM, List.map_cons, cut1]
    exact lay2 fun m hm => me 0 m (by rw [eM]; exact List.mem_cons_of_mem _ hm)
  refine ife_f (by simp only [cmpl, exs, ex, ev, evs, evPart, evIt, sealE, sealIt, rd_val, rd_own, rd_succ, Lr.add_int, Lr.sub_int, bin_add, bin_sub, bin_mul, bin_fdiv, bin_mod, cmp_eq, cmp_ne, cmp_lt, cmp_le, cmp_gt, cmp_ge, cmp_in, cmp_notin, cmp_isN, cmp_isnotN, Lr.eq_int, Lr.ne_int, Lr.len_lst, Lr.len_tup, tuple_lst, tuple_tup, list_lst, list_tup, int_bl, bi_len, bi_tuple, bi_list, bi_int, bi_join, bi_any, bi_all, bi_index, bi_sorted, bi_min1, bi_max1, bi_max2, bi_abs, bi_sum, bi_split, idx_lst, idx_tup, Lr.sl_lst, Lr.sl_tup, and_t', and_f, or_f', or_t, blo, chain_f, chain_t, not_b, neg_i, cond_t, cond_f, rng1, rng2, list_of, part_i, seq_nx, seq_ret, seq_brk, seq_cont, if_t, if_f, own_some, own_val, own_non, sv_some, sv_none, bind_name, start0, Option.bind_some, Option.bind_none, Option.map_some, Option.map_none, List.map_cons, List.map_nil, List.length_cons, List.length_nil, List.replicate, List.cons_append, List.nil_append, List.getElem?_cons_zero, List.getElem?_cons_succ, List.set_cons_zero, List.set_cons_succ, Nat.reduceAdd, Nat.reduceSub, if_true, if_false, Bool.false_eq_true, reduceIte, decide_true, decide_false, Bool.not_true, Bool.not_false, tup_d, lst_d, sz0, sz1, sz2, sz3, sz4, sz5, bnd2, bnd2l, bnd3, set2, set3, abs_i, max2_i, lt_i, gt_i, le_i, ge_i, for_nil, sat_some, lo_nx, lo_cont, lo_brk, lo_ret, i2, c3, lt, lowt2, lb, c4, lay2 (mt (stsRows s + 2)), c4n, Int.reduceNeg]; try rfl) ?_
  refine ife_f (by simp only [cmpl, exs, ex, ev, evs, evPart, evIt, sealE, sealIt, rd_val, rd_own, rd_succ, Lr.add_int, Lr.sub_int, bin_add, bin_sub, bin_mul, bin_fdiv, bin_mod, cmp_eq, cmp_ne, cmp_lt, cmp_le, cmp_gt, cmp_ge, cmp_in, cmp_notin, cmp_isN, cmp_isnotN, Lr.eq_int, Lr.ne_int, Lr.len_lst, Lr.len_tup, tuple_lst, tuple_tup, list_lst, list_tup, int_bl, bi_len, bi_tuple, bi_list, bi_int, bi_join, bi_any, bi_all, bi_index, bi_sorted, bi_min1, bi_max1, bi_max2, bi_abs, bi_sum, bi_split, idx_lst, idx_tup, Lr.sl_lst, Lr.sl_tup, and_t', and_f, or_f', or_t, blo, chain_f, chain_t, not_b, neg_i, cond_t, cond_f, rng1, rng2, list_of, part_i, seq_nx, seq_ret, seq_brk, seq_cont, if_t, if_f, own_some, own_val, own_non, sv_some, sv_none, bind_name, start0, Option.bind_some, Option.bind_none, Option.map_some, Option.map_none, List.map_cons, List.map_nil, List.length_cons, List.length_nil, List.replicate, List.cons_append, List.nil_append, List.getElem?_cons_zero, List.getElem?_cons_succ, List.set_cons_zero, List.set_cons_succ, Nat.reduceAdd, Nat.reduceSub, if_true, if_false, Bool.false_eq_true, reduceIte, decide_true, decide_false, Bool.not_true, Bool.not_false, tup_d, lst_d, sz0, sz1, sz2, sz3, sz4, sz5, bnd2, bnd2l, bnd3, set2, set3, abs_i, max2_i, lt_i, gt_i, le_i, ge_i, for_nil, sat_some, lo_nx, lo_cont, lo_brk, lo_ret, c5, lr, ls, lows, lay2 (ms 1), Int.reduceNeg]; try rfl) ?_
  have hl5 : lenEv [hsD hs] = some (.int hs.length) := by show some (PyData.int ((hs.map PyData.str).length : Nat)) = _; rw [List.length_map]
  refine stp_sat (by simp only [cmpl, exs, ex, ev, evs, evPart, evIt, sealE, sealIt, rd_val, rd_own, rd_succ, Lr.add_int, Lr.sub_int, bin_add, bin_sub, bin_mul, bin_fdiv, bin_mod, cmp_eq, cmp_ne, cmp_lt, cmp_le, cmp_gt, cmp_ge, cmp_in, cmp_notin, cmp_isN, cmp_isnotN, Lr.eq_int, Lr.ne_int, Lr.len_lst, Lr.len_tup, tuple_lst, tuple_tup, list_lst, list_tup, int_bl, bi_len, bi_tuple, bi_list, bi_int, bi_join, bi_any, bi_all, bi_index, bi_sorted, bi_min1, bi_max1, bi_max2, bi_abs, bi_sum, bi_split, idx_lst, idx_tup, Lr.sl_lst, Lr.sl_tup, and_t', and_f, or_f', or_t, blo, chain_f, chain_t, not_b, neg_i, cond_t, cond_f, rng1, rng2, list_of, part_i, seq_nx, seq_ret, seq_brk, seq_cont, if_t, if_f, own_some, own_val, own_non, sv_some, sv_none, bind_name, start0, Option.bind_some, Option.bind_none, Option.map_some, Option.map_none, List.map_cons, List.map_nil, List.length_cons, List.length_nil, List.replicate, List.cons_append, List.nil_append, List.getElem?_cons_zero, List.getElem?_cons_succ, List.set_cons_zero, List.set_cons_succ, Nat.reduceAdd, Nat.reduceSub, if_true, if_false, Bool.false_eq_true, reduceIte, decide_true, decide_false, Bool.not_true, Bool.not_false, tup_d, lst_d, sz0, sz1, sz2, sz3, sz4, sz5, bnd2, bnd2l, bnd3, set2, set3, abs_i, max2_i, lt_i, gt_i, le_i, ge_i, for_nil, sat_some, lo_nx, lo_cont, lo_brk, lo_ret, hl5]; rfl) ?_
  -- from the other side
  obtain ⟨D, eD⟩ : ∃ D, D = stsMarks hs.reverse 0 [.choice [s, t]] := ⟨_, rfl⟩
  have hrv : D = (stsMarks hs 0 [.choice [s, t]]).map (Mark.mir ((hs.length : Int) - 1)) := by rw [eD]; exact sts_rev ho.nd _ _ (unl_letters he).1
  have hq : seqItems (.tuple ((stsMarks hs 0 [.choice [s, t]]).map Mark.d)) = some ((stsMarks hs 0 [.choice [s, t]]).map Mark.d) := by rw [seqI_tup, sz_ok (by rw [List.length_map, stsMarks_len]; omega)]; rfl
  have sd : ∀ m : Mark, callAt T g fu 69 "_law_other_side" [m.d, .int ((hs.length : Int) - 1)] = some (m.mir ((hs.length : Int) - 1)).d := fun m => side_ok A.side m (by decide)
  have etp : tupleEv [.list ((stsMarks hs 0 [.choice [s, t]]).map fun m => (m.mir ((hs.length : Int) - 1)).d)] = some (.tuple (D.map Mark.d)) := by
    rw [hrv, List.map_map]
    rfl
  refine stp_sat (by
    simp only [cmpl, exs, ex, ev, evs, evPart, evIt, sealE, sealIt, rd_val, rd_own, rd_succ, Lr.add_int, Lr.sub_int, bin_add, bin_sub, bin_mul, bin_fdiv, bin_mod, cmp_eq, cmp_ne, cmp_lt, cmp_le, cmp_gt, cmp_ge, cmp_in, cmp_notin, cmp_isN, cmp_isnotN, Lr.eq_int, Lr.ne_int, Lr.len_lst, Lr.len_tup, tuple_lst, tuple_tup, list_lst, list_tup, int_bl, bi_len, bi_tuple, bi_list, bi_int, bi_join, bi_any, bi_all, bi_index, bi_sorted, bi_min1, bi_max1, bi_max2, bi_abs, bi_sum, bi_split, idx_lst, idx_tup, Lr.sl_lst, Lr.sl_tup, and_t', and_f, or_f', or_t, blo, chain_f, chain_t, not_b, neg_i, cond_t, cond_f, rng1, rng2, list_of, part_i, seq_nx, seq_ret, seq_brk, seq_cont, if_t, if_f, own_some, own_val, own_non, sv_some, sv_none, bind_name, start0, Option.bind_some, Option.bind_none, Option.map_some, Option.map_none, List.map_cons, List.map_nil, List.length_cons, List.length_nil, List.replicate, List.cons_append, List.nil_append, List.getElem?_cons_zero, List.getElem?_cons_succ, List.set_cons_zero, List.set_cons_succ, Nat.reduceAdd, Nat.reduceSub, if_true, if_false, Bool.false_eq_true, reduceIte, decide_true, decide_false, Bool.not_true, Bool.not_false, tup_d, lst_d, sz0, sz1, sz2, sz3, sz4, sz5, bnd2, bnd2l, bnd3, set2, set3, abs_i, max2_i, lt_i, gt_i, le_i, ge_i, for_nil, sat_some, lo_nx, lo_cont, lo_brk, lo_ret, hq]
    rw [lcRun_map (r := fun m => (m.mir ((hs.length : Int) - 1)).d) fun m _ => by
      simp only [cmpl, exs, ex, ev, evs, evPart, evIt, sealE, sealIt, rd_val, rd_own, rd_succ, Lr.add_int, Lr.sub_int, bin_add, bin_sub, bin_mul, bin_fdiv, bin_mod, cmp_eq, cmp_ne, cmp_lt, cmp_le, cmp_gt, cmp_ge, cmp_in, cmp_notin, cmp_isN, cmp_isnotN, Lr.eq_int, Lr.ne_int, Lr.len_lst, Lr.len_tup, tuple_lst, tuple_tup, list_lst, list_tup, int_bl, bi_len, bi_tuple, bi_list, bi_int, bi_join, bi_any, bi_all, bi_index, bi_sorted, bi_min1, bi_max1, bi_max2, bi_abs, bi_sum, bi_split, idx_lst, idx_tup, Lr.sl_lst, Lr.sl_tup, and_t', and_f, or_f', or_t, blo, chain_f, chain_t, not_b, neg_i, cond_t, cond_f, rng1, rng2, list_of, part_i, seq_nx, seq_ret, seq_brk, seq_cont, if_t, if_f, own_some, own_val, own_non, sv_some, sv_none, bind_name, start0, Option.bind_some, Option.bind_none, Option.map_some, Option.map_none, List.map_cons, List.map_nil, List.length_cons, List.length_nil, List.replicate, List.cons_append, List.nil_append, List.getElem?_cons_zero, List.getElem?_cons_succ, List.set_cons_zero, List.set_cons_succ, Nat.reduceAdd, Nat.reduceSub, if_true, if_false, Bool.false_eq_true, reduceIte, decide_true, decide_false, Bool.not_true, Bool.not_false, tup_d, lst_d, sz0, sz1, sz2, sz3, sz4, sz5, bnd2, bnd2l, bnd3, set2, set3, abs_i, max2_i, lt_i, gt_i, le_i, ge_i, for_nil, sat_some, lo_nx, lo_cont, lo_brk, lo_ret, sd]]
    simp only [cmpl, exs, ex, ev, evs, evPart, evIt, sealE, sealIt, rd_val, rd_own, rd_succ, Lr.add_int, Lr.sub_int, bin_add, bin_sub, bin_mul, bin_fdiv, bin_mod, cmp_eq, cmp_ne, cmp_lt, cmp_le, cmp_gt, cmp_ge, cmp_in, cmp_notin, cmp_isN, cmp_isnotN, Lr.eq_int, Lr.ne_int, Lr.len_lst, Lr.len_tup, tuple_lst, tuple_tup, list_lst, list_tup, int_bl, bi_len, bi_tuple, bi_list, bi_int, bi_join, bi_any, bi_all, bi_index, bi_sorted, bi_min1, bi_max1, bi_max2, bi_abs, bi_sum, bi_split, idx_lst, idx_tup, Lr.sl_lst, Lr.sl_tup, and_t', and_f, or_f', or_t, blo, chain_f, chain_t, not_b, neg_i, cond_t, cond_f, rng1, rng2, list_of, part_i, seq_nx, seq_ret, seq_brk, seq_cont, if_t, if_f, own_some, own_val, own_non, sv_some, sv_none, bind_name, start0, Option.bind_some, Option.bind_none, Option.map_some, Option.map_none, List.map_cons, List.map_nil, List.length_cons, List.length_nil, List.replicate, List.cons_append, List.nil_append, List.getElem?_cons_zero, List.getElem?_cons_succ, List.set_cons_zero, List.set_cons_succ, Nat.reduceAdd, Nat.reduceSub, if_true, if_false, Bool.false_eq_true, reduceIte, decide_true, decide_false, Bool.not_true, Bool.not_false, tup_d, lst_d, sz0, sz1, sz2, sz3, sz4, sz5, bnd2, bnd2l, bnd3, set2, set3, abs_i, max2_i, lt_i, gt_i, le_i, ge_i, for_nil, sat_some, lo_nx, lo_cont, lo_brk, lo_ret, etp]
    rfl) ?_
  refine stp_sat (by simp only [cmpl, exs, ex, ev, evs, evPart, evIt, sealE, sealIt, rd_val, rd_own, rd_succ, Lr.add_int, Lr.sub_int, bin_add, bin_sub, bin_mul, bin_fdiv, bin_mod, cmp_eq, cmp_ne, cmp_lt, cmp_le, cmp_gt, cmp_ge, cmp_in, cmp_notin, cmp_isN, cmp_isnotN, Lr.eq_int, Lr.ne_int, Lr.len_lst, Lr.len_tup, tuple_lst, tuple_tup, list_lst, list_tup, int_bl, bi_len, bi_tuple, bi_list, bi_int, bi_join, bi_any, bi_all, bi_index, bi_sorted, bi_min1, bi_max1, bi_max2, bi_abs, bi_sum, bi_split, idx_lst, idx_tup, Lr.sl_lst, Lr.sl_tup, and_t', and_f, or_f', or_t, blo, chain_f, chain_t, not_b, neg_i, cond_t, cond_f, rng1, rng2, list_of, part_i, seq_nx, seq_ret, seq_brk, seq_cont, if_t, if_f, own_some, own_val, own_non, sv_some, sv_none, bind_name, start0, Option.bind_some, Option.bind_none, Option.map_some, Option.map_none, List.map_cons, List.map_nil, List.length_cons, List.length_nil, List.replicate, List.cons_append, List.nil_append, List.getElem?_cons_zero, List.getElem?_cons_succ, List.set_cons_zero, List.set_cons_succ, Nat.reduceAdd, Nat.reduceSub, if_true, if_false, Bool.false_eq_true, reduceIte, decide_true, decide_false, Bool.not_true, Bool.not_false, tup_d, lst_d, sz0, sz1, sz2, sz3, sz4, sz5, bnd2, bnd2l, bnd3, set2, set3, abs_i, max2_i, lt_i, gt_i, le_i, ge_i, for_nil, sat_some, lo_nx, lo_cont, lo_brk, lo_ret, rev_hs, ax1]; rfl) ?_
  have ho2 : HandsOk hs.reverse := ⟨by simpa using pos, by simpa using few, fun x hx => ho.names x (by simpa using hx), List.pairwise_reverse.mpr (ho.nd.imp fun h => h.symm)⟩
  have he2 : stsOk hs.reverse 2 [.choice [s, t]] := sts_perm (fun x hx => by simpa using hx) he
  obtain ⟨le2, _, _, me2⟩ := lay ho2 (n := 2) (by decide) (show [Stp.choice [s, t]].length ≤ 4 by simp) he2
  rw [← eD] at le2
  simp only [stsD, Stp.d, brsD] at le2
  have ul := unlaid_ok (fu := fu) A.unl G hg ho2 (n := 2) (by decide) (show [Stp.choice [s, t]].length ≤ 4 by simp) he2 (k := 69) (by decide)
  rw [← eD] at ul
  have eq1 : eqEv (.tuple (D.map Mark.d)) (.tuple (D.map Mark.d)) = some true := eq_same (lay_map (by rw [eD]; exact me2 0)) (by decide)
  have eq2 : eqEv (talkD hs.reverse [.choice [s, t]]) (talkD hs.reverse [.choice [s, t]]) = some true := eq_same (lay_talk ho2.names he2) (by decide)
  simp only [talkD, stsD, Stp.d, brsD] at ul eq2
  refine ret_sat ?_ rfl
  simp only [cmpl, exs, ex, ev, evs, evPart, evIt, sealE, sealIt, rd_val, rd_own, rd_succ, Lr.add_int, Lr.sub_int, bin_add, bin_sub, bin_mul, bin_fdiv, bin_mod, cmp_eq, cmp_ne, cmp_lt, cmp_le, cmp_gt, cmp_ge, cmp_in, cmp_notin, cmp_isN, cmp_isnotN, Lr.eq_int, Lr.ne_int, Lr.len_lst, Lr.len_tup, tuple_lst, tuple_tup, list_lst, list_tup, int_bl, bi_len, bi_tuple, bi_list, bi_int, bi_join, bi_any, bi_all, bi_index, bi_sorted, bi_min1, bi_max1, bi_max2, bi_abs, bi_sum, bi_split, idx_lst, idx_tup, Lr.sl_lst, Lr.sl_tup, and_t', and_f, or_f', or_t, blo, chain_f, chain_t, not_b, neg_i, cond_t, cond_f, rng1, rng2, list_of, part_i, seq_nx, seq_ret, seq_brk, seq_cont, if_t, if_f, own_some, own_val, own_non, sv_some, sv_none, bind_name, start0, Option.bind_some, Option.bind_none, Option.map_some, Option.map_none, List.map_cons, List.map_nil, List.length_cons, List.length_nil, List.replicate, List.cons_append, List.nil_append, List.getElem?_cons_zero, List.getElem?_cons_succ, List.set_cons_zero, List.set_cons_succ, Nat.reduceAdd, Nat.reduceSub, if_true, if_false, Bool.false_eq_true, reduceIte, decide_true, decide_false, Bool.not_true, Bool.not_false, tup_d, lst_d, sz0, sz1, sz2, sz3, sz4, sz5, bnd2, bnd2l, bnd3, set2, set3, abs_i, max2_i, lt_i, gt_i, le_i, ge_i, for_nil, sat_some, lo_nx, lo_cont, lo_brk, lo_ret, rev_hs, le2, ul, eq1, eq2]
end
end Lr
namespace Lr
open PySem PySem.Spec PyProof.Rows L2
namespace K42
noncomputable section
def tp (i : Nat) : Stmt := PySem.Challenge.pw_lanerows_k42_whole_laid_in_parts.main.body.getD i (.Pass ⟨0, 0, 0, 0⟩)
def n_is_name : Dn := ⟨"is_name", tp 10, ["thing", "sign"], ["thing"], [], d_is_name⟩
def n_is_hand : Dn := ⟨"is_hand", tp 11, ["thing", "hands"], ["thing", "hands"], [], d_is_hand⟩
def n_is_step : Dn := ⟨"is_step", tp 12, ["thing", "hands", "deep", "part", "word"], ["thing", "hands", "deep"], [], d_is_step⟩
def n_are_steps : Dn := ⟨"are_steps", tp 13, ["thing", "hands", "deep", "part"], ["thing", "hands", "deep"], [], d_are_steps⟩
def n_is_talk : Dn := ⟨"is_talk", tp 14, ["thing", "hand", "hands"], ["thing"], [], d_is_talk_k01⟩
def n_parts_of : Dn := ⟨"parts_of", tp 15, ["step"], ["step"], [], d_parts_of⟩
def n_letters_in : Dn := ⟨"letters_in", tp 16, ["steps", "found", "part", "step"], ["steps"], [1], d_letters_in⟩
def n_lanes_of : Dn := ⟨"lanes_of", tp 18, ["step", "hands", "found", "letter", "part"], ["step", "hands"], [2], d_lanes_of⟩
def n_marks_of : Dn := ⟨"marks_of", tp 19, ["steps", "hands", "row", "at", "found", "here", "part", "step"], ["steps", "hands", "row"], [4], d_marks_of⟩
def n_laid : Dn := ⟨"laid", tp 20, ["talk"], ["talk"], [], d_laid⟩
def n_height : Dn := ⟨"height", tp 21, ["talk"], ["talk"], [], d_height⟩
abbrev sMarks : Stmt := tp 22
def n_unlaid : Dn := ⟨"unlaid", tp 23, ["hands", "marks", "found", "reader"], ["hands", "marks"], [], d_unlaid⟩
def n_law_cell_at : Dn := ⟨"_law_cell_at", tp 25, ["script", "k"], ["script", "k"], [], d_law_cell_at⟩
def n_law_mixed : Dn := ⟨"_law_mixed", tp 26, ["script", "k", "drawn"], ["script", "k"], [], d_law_mixed⟩
def n_law_drawn : Dn := ⟨"_law_drawn", tp 27, ["number", "k", "drawn"], ["number", "k"], [], d_law_drawn⟩
def n_law_word : Dn := ⟨"_law_word", tp 28, ["number", "k", "signs"], ["number"], [], d_law_word⟩
def n_law_step : Dn := ⟨"_law_step", tp 29, ["number", "hands", "deep", "begin", "branches", "end", "k", "kind", "many", "one"], ["number", "hands", "deep"], [], d_law_step⟩
def n_law_steps : Dn := ⟨"_law_steps", tp 30, ["number", "hands", "deep", "most", "k"], ["number", "hands", "deep", "most"], [], d_law_steps⟩
def n_law_two : Dn := ⟨"_law_two", tp 31, ["script", "hands", "number", "ones", "others"], ["script"], [], d_law_two⟩
def n_law_lower : Dn := ⟨"_law_lower", tp 32, ["marks", "by", "mark"], ["marks", "by"], [], d_law_lower⟩
def n_law_other_side : Dn := ⟨"_law_other_side", tp 33, ["mark", "last"], ["mark", "last"], [], d_law_other_side⟩
def n_law : Dn := ⟨"law", tp 34, ["script", "again", "both", "due", "either", "hands", "here", "high", "last", "mark", "marks", "ones", "others", "there", "turned", "whole"], ["script"], [], d_law_k42⟩
def LL : List Dn := [n_is_name, n_is_hand, n_is_step, n_are_steps, n_is_talk, n_parts_of, n_letters_in, n_lanes_of, n_marks_of, n_laid, n_height, n_unlaid, n_law_cell_at, n_law_mixed, n_law_drawn, n_law_word, n_law_step, n_law_steps, n_law_two, n_law_lower, n_law_other_side, n_law]
def TT : Tb := ⟨tbDefs LL, [("LETTERS", .str "abcdefghijklmnopqrstuvwxyz"), ("LONGEST", .int 5), ("MOST_HANDS", .int 4), ("MOST_STEPS", .int 4), ("MOST_BRANCHES", .int 3), ("DEEPEST", .int 3)], ["all", "enumerate", "isinstance", "len", "max", "min", "range", "set", "str", "tuple"]⟩
theorem f_is_name : Fits TT n_is_name := ⟨by decide +kernel, fun _ _ _ _ _ _ us hl => match us, hl with | [_], _ => rfl, by kernel_rfl, rfl, rfl⟩
theorem f_is_hand : Fits TT n_is_hand := ⟨by decide +kernel, fun _ _ _ _ _ _ us hl => match us, hl with | [_, _], _ => rfl, by kernel_rfl, rfl, rfl⟩
theorem f_is_step : Fits TT n_is_step := ⟨by decide +kernel, fun _ _ _ _ _ _ us hl => match us, hl with | [_, _, _], _ => rfl, by kernel_rfl, rfl, rfl⟩
theorem f_are_steps : Fits TT n_are_steps := ⟨by decide +kernel, fun _ _ _ _ _ _ us hl => match us, hl with | [_, _, _], _ => rfl, by kernel_rfl, rfl, rfl⟩
theorem f_is_talk : Fits TT n_is_talk := ⟨by decide +kernel, fun _ _ _ _ _ _ us hl => match us, hl with | [_], _ => rfl, by kernel_rfl, rfl, rfl⟩
theorem f_parts_of : Fits TT n_parts_of := ⟨by decide +kernel, fun _ _ _ _ _ _ us hl => match us, hl with | [_], _ => rfl, by kernel_rfl, rfl, rfl⟩
theorem f_letters_in : Fits TT n_letters_in := ⟨by decide +kernel, fun _ _ _ _ _ _ us hl => match us, hl with | [_], _ => rfl, by kernel_rfl, rfl, rfl⟩
theorem f_lanes_of : Fits TT n_lanes_of := ⟨by decide +kernel, fun _ _ _ _ _ _ us hl => match us, hl with | [_, _], _ => rfl, by kernel_rfl, rfl, rfl⟩
theorem f_marks_of : Fits TT n_marks_of := ⟨by decide +kernel, fun _ _ _ _ _ _ us hl => match us, hl with | [_, _, _], _ => rfl, by kernel_rfl, rfl, rfl⟩
theorem f_laid : Fits TT n_laid := ⟨by decide +kernel, fun _ _ _ _ _ _ us hl => match us, hl with | [_], _ => rfl, by kernel_rfl, rfl, rfl⟩
theorem f_height : Fits TT n_height := ⟨by decide +kernel, fun _ _ _ _ _ _ us hl => match us, hl with | [_], _ => rfl, by kernel_rfl, rfl, rfl⟩
theorem f_unlaid : FitsP n_unlaid := ⟨by decide +kernel, fun _ _ _ _ _ _ us hl => match us, hl with | [_, _], _ => rfl⟩
theorem f_law_cell_at : Fits TT n_law_cell_at := ⟨by decide +kernel, fun _ _ _ _ _ _ us hl => match us, hl with | [_, _], _ => rfl, by kernel_rfl, rfl, rfl⟩
theorem f_law_mixed : Fits TT n_law_mixed := ⟨by decide +kernel, fun _ _ _ _ _ _ us hl => match us, hl with | [_, _], _ => rfl, by kernel_rfl, rfl, rfl⟩
theorem f_law_drawn : Fits TT n_law_drawn := ⟨by decide +kernel, fun _ _ _ _ _ _ us hl => match us, hl with | [_, _], _ => rfl, by kernel_rfl, rfl, rfl⟩
theorem f_law_word : Fits TT n_law_word := ⟨by decide +kernel, fun _ _ _ _ _ _ us hl => match us, hl with | [_], _ => rfl, by kernel_rfl, rfl, rfl⟩
theorem f_law_step : Fits TT n_law_step := ⟨by decide +kernel, fun _ _ _ _ _ _ us hl => match us, hl with | [_, _, _], _ => rfl, by kernel_rfl, rfl, rfl⟩
theorem f_law_steps : Fits TT n_law_steps := ⟨by decide +kernel, fun _ _ _ _ _ _ us hl => match us, hl with | [_, _, _, _], _ => rfl, by kernel_rfl, rfl, rfl⟩
theorem f_law_two : Fits TT n_law_two := ⟨by decide +kernel, fun _ _ _ _ _ _ us hl => match us, hl with | [_], _ => rfl, by kernel_rfl, rfl, rfl⟩
theorem f_law_lower : Fits TT n_law_lower := ⟨by decide +kernel, fun _ _ _ _ _ _ us hl => match us, hl with | [_, _], _ => rfl, by kernel_rfl, rfl, rfl⟩
theorem f_law_other_side : Fits TT n_law_other_side := ⟨by decide +kernel, fun _ _ _ _ _ _ us hl => match us, hl with | [_, _], _ => rfl, by kernel_rfl, rfl, rfl⟩
theorem f_law : Fits TT n_law := ⟨by decide +kernel, fun _ _ _ _ _ _ us hl => match us, hl with | [_], _ => rfl, by kernel_rfl, rfl, rfl⟩
theorem fits : ∀ d ∈ LL, isP d = false → Fits TT d := by
  intro d hd hp
  simp only [LL, List.mem_cons, List.not_mem_nil, or_false] at hd
  rcases hd with rfl | rfl | rfl | rfl | rfl | rfl | rfl | rfl | rfl | rfl | rfl | rfl | rfl | rfl | rfl | rfl | rfl | rfl | rfl | rfl | rfl | rfl
  · exact f_is_name
  · exact f_is_hand
  · exact f_is_step
  · exact f_are_steps
  · exact f_is_talk
  · exact f_parts_of
  · exact f_letters_in
  · exact f_lanes_of
  · exact f_marks_of
  · exact f_laid
  · exact f_height
  · cases hp
  · exact f_law_cell_at
  · exact f_law_mixed
  · exact f_law_drawn
  · exact f_law_word
  · exact f_law_step
  · exact f_law_steps
  · exact f_law_two
  · exact f_law_lower
  · exact f_law_other_side
  · exact f_law
theorem fitsP : ∀ d ∈ LL, isP d = true → FitsP d := by
  intro d hd hp
  simp only [LL, List.mem_cons, List.not_mem_nil, or_false] at hd
  rcases hd with rfl | rfl | rfl | rfl | rfl | rfl | rfl | rfl | rfl | rfl | rfl | rfl | rfl | rfl | rfl | rfl | rfl | rfl | rfl | rfl | rfl | rfl
  · cases hp
  · cases hp
  · cases hp
  · cases hp
  · cases hp
  · cases hp
  · cases hp
  · cases hp
  · cases hp
  · cases hp
  · cases hp
  · exact f_unlaid
  · cases hp
  · cases hp
  · cases hp
  · cases hp
  · cases hp
  · cases hp
  · cases hp
  · cases hp
  · cases hp
  · cases hp
def faX : List He.Fa := [.glo "Marks", .cls "Marks", .mkr "Marks", .noat "Marks" "hands", .noat "Marks" "marks", .noat "Marks" "at", .meth "Marks" "next_word", .meth "Marks" "take", .meth "Marks" "steps", .meth "Marks" "step", .meth "Marks" "hand", .glo "NoTalk", .exc "NoTalk"]
def fnX : List He.DefD := [⟨("Marks", some "__init__"), "__init__", "Marks.__init__", defArgs (inClass sMarks 0), defBody (inClass sMarks 0), defScope (inClass sMarks 0), [], []⟩, ⟨("Marks", some "next_word"), "next_word", "Marks.next_word", defArgs (inClass sMarks 1), defBody (inClass sMarks 1), defScope (inClass sMarks 1), [], []⟩, ⟨("Marks", some "take"), "take", "Marks.take", defArgs (inClass sMarks 2), defBody (inClass sMarks 2), defScope (inClass sMarks 2), [], []⟩, ⟨("Marks", some "steps"), "steps", "Marks.steps", defArgs (inClass sMarks 3), defBody (inClass sMarks 3), defScope (inClass sMarks 3), [], []⟩, ⟨("Marks", some "step"), "step", "Marks.step", defArgs (inClass sMarks 4), defBody (inClass sMarks 4), defScope (inClass sMarks 4), [], []⟩, ⟨("Marks", some "hand"), "hand", "Marks.hand", defArgs (inClass sMarks 5), defBody (inClass sMarks 5), defScope (inClass sMarks 5), [], []⟩]
abbrev RR : PySem.W.OpenRow := PySem.W.OpenLaw.row PySem.Challenge.rw_lanerows_k42_whole_laid_in_parts
abbrev hk : PySem.W.Hook := hookL 4 (faOf LL TT ++ faX) (fnOf LL ++ fnX)
def ob (s : PySem.W.SharedT) : He.AlD × Bool := obL 4 (faOf LL TT ++ faX) (fnOf LL ++ fnX) (HandSHeadRun.getT s)
theorem ob_eq (s : PySem.W.SharedT) : ob s = hk.obs s.abs := obL_eq (HandSHeadRun.getT_eq s)
def nms : List Str := (["LaneError", "NoTalk", "LETTERS", "LONGEST", "MOST_HANDS", "MOST_STEPS", "MOST_BRANCHES", "DEEPEST", "is_name", "is_hand", "is_step", "are_steps", "is_talk", "parts_of", "letters_in", "lanes_of", "marks_of", "laid", "height", "Marks", "unlaid", "_law_cell_at", "_law_mixed", "_law_drawn", "_law_word", "_law_step", "_law_steps", "_law_two", "_law_lower", "_law_other_side"] : List Str)
theorem run (w : World) : HandSHeadRun.RunEq RR (PySem.W.view RR.prog [34]) hk ob 6000 nms w := by
  intro os
  kernel_rfl
end
abbrev sInit : Stmt := inClass sMarks 0
abbrev sWord : Stmt := inClass sMarks 1
abbrev sTake : Stmt := inClass sMarks 2
abbrev sSteps : Stmt := inClass sMarks 3
abbrev sStep : Stmt := inClass sMarks 4
abbrev sHand : Stmt := inClass sMarks 5
abbrev FD (K : PySem.W.Frag) (x q : Str) (st : Stmt) (f : Addr) (fd : FuncData) : Prop := FunD K x q (defArgs st) (defBody st) (defScope st) [] [] f fd
theorem scI : FnScope ["self", "hands", "marks"] ["self", "hands", "marks"] (defScope sInit) := scB_ok (by decide +kernel)
theorem scW : FnScope ["self"] ["self"] (defScope sWord) := scB_ok (by decide +kernel)
theorem scT : FnScope ["self"] ["self"] (defScope sTake) := scB_ok (by decide +kernel)
theorem scS : FnScope ["self", "found"] ["self"] (defScope sSteps) := scB_ok (by decide +kernel)
theorem sc1 : FnScope ["self", "mark", "parts"] ["self"] (defScope sStep) := scB_ok (by decide +kernel)
theorem scH : FnScope ["self", "lane"] ["self", "lane"] (defScope sHand) := scB_ok (by decide +kernel)
section
variable {P : Program} {w : World} {K : PySem.W.Frag} {mg : Str → Option Value} {base : Heap} {C CN f : Addr} {fd : FuncData}
theorem ok_init (T : MTxt K mg C CN) (F : FD K "__init__" "Marks.__init__" sInit f fd) : FnOk P w K mg base (L2.CX P w) 1 f fd ["self", "hands", "marks"] (spInitM K C) := by
  refine F.ok scI (fun vs H Q E h => ?_) (fun cdv A outer s H vs Q E hr h => ?_)
  · obtain ⟨p, dx, vh, vm, hs, ms, rfl, _⟩ := h
    rfl
  · obtain ⟨p, dx, vh, vm, hs, ms, rfl, hp, th, tm, q⟩ := h
    refine ⟨_, pss_cons (ps_fld (pv 0) (pv 1) rfl) (pss_cons (ps_fld (pv 0) (pv 2) rfl) (pss_one (ps_fld (pv 0) pe_int rfl))), ?_⟩
    refine ⟨vh, rfl, _, rfl, p, C, dx, [], rfl, hp, T.cl, T.nH, by show 0 < 1000; decide, ?_⟩
    refine ⟨vm, rfl, _, rfl, p, C, dx, _, rfl, upd_same, T.cl, T.nM, by show 1 < 1000; decide, ?_⟩
    refine ⟨_, rfl, p, C, dx, _, rfl, upd_same, T.cl, T.nA, ?_, ?_⟩
    · exact Nat.lt_of_le_of_lt (length_putF _ _ _) (by show 1 + 1 < 1000; decide)
    · rw [upd_upd, upd_upd]
      have sb : Sb p H (upd H p (.ins C dx (mf vh vm (0 : Nat)))) := sb_upd _
      exact q _ sb ⟨dx, vh, vm, upd_same, th.ext (sb.ext hp), tm.ext (sb.ext hp)⟩
theorem ok_word (T : MTxt K mg C CN) (F : FD K "next_word" "Marks.next_word" sWord f fd) : FnOk P w K mg base (L2.CX P w) 1 f fd ["self"] (spWord K C) := by
  refine F.ok scW (fun vs H Q E h => ?_) (fun cdv A outer s H vs Q E hr h => ?_)
  · obtain ⟨p, hs, ms, i, d, rfl, _⟩ := h
    rfl
  · obtain ⟨p, hs, ms, i, d, rfl, ⟨dx, vh, vm, hp, th, tm⟩, hw, q⟩ := h
    refine ⟨_, pss_cons (ps_if (pt_cmpR (opC (hu_of' hr) .Eq) (pe_fld (pv 0) rfl) (pe_callB cr_len (by rfl) T.len PySem.boot_len (pa_cons (pe_fld (pv 0) rfl) pa_nil)) (nomark _)) (pss_one (ps_ret pe_str)) pss_nil)
      (pss_one (ps_ret (pe_ix ix_seq (pe_ix ix_seq (pe_fld (pv 0) rfl) (pe_fld (pv 0) rfl) (ixP rfl)) pe_int (ixP rfl)))), ?_⟩
    obtain ⟨ma, xs, e1, hT, tx⟩ := tm.r.tupE
    refine ⟨_, rfl, p, C, dx, _, _, rfl, hp, T.cl, T.nA, mf_at _ _ _, _, rfl, p, C, dx, _, _, rfl, hp, T.cl, T.nM, mf_marks _ _ _, [.tuple ms], .int ms.length, .one tm.r, rfl, fun z H1 s1 hz => ?_⟩
    refine ⟨.int i, .int ms.length, decide (i = ms.length), (Has.int (K := K) (H := H1) i).r, hz.r, ?_, _, rfl, ?_⟩
    · exact eqN _ _
    · unfold wordP at hw
      by_cases hi : i = ms.length
      · rw [if_pos hi] at hw
        cases hw
        rw [decide_eq_true hi, if_pos rfl]
        exact q _ _ s1 (.str _)
      · rw [if_neg hi] at hw
        obtain ⟨m, hm, hw⟩ := bs hw
        rw [decide_eq_false hi, if_neg Bool.false_ne_true]
        refine ⟨_, rfl, p, C, dx, _, _, rfl, s1 _ _ hp, T.cl, T.nM, mf_marks _ _ _, _, rfl, p, C, dx, _, _, rfl, s1 _ _ hp, T.cl, T.nA, mf_at _ _ _, rIx_ok (tm.ext (same_ext s1)).r (Has.int _).r hm fun z2 H2 s2 h2 => rIx_ok h2.r (Has.int 0).r hw fun z3 H3 s3 h3 => q _ _ ((s1.trans s2).trans s3) h3⟩
theorem ok_take (T : MTxt K mg C CN) (F : FD K "take" "Marks.take" sTake f fd) : FnOk P w K mg base (L2.CX P w) 1 f fd ["self"] (spTake K C) := by
  refine F.ok scT (fun vs H Q E h => ?_) (fun cdv A outer s H vs Q E hr h => ?_)
  · obtain ⟨p, hs, ms, i, d, rfl, _⟩ := h
    rfl
  · obtain ⟨p, hs, ms, i, d, rfl, ⟨dx, vh, vm, hp, th, tm⟩, hw, q⟩ := h
    refine ⟨_, pss_cons (ps_fld (pv 0) (pe_op op_add (pe_fld (pv 0) rfl) pe_int) rfl) (pss_one (ps_ret (pe_ix ix_seq (pe_fld (pv 0) rfl) (pe_op op_sub (pe_fld (pv 0) rfl) pe_int) (ixP rfl)))), ?_⟩
    refine ⟨_, rfl, p, C, dx, _, _, rfl, hp, T.cl, T.nA, mf_at _ _ _, _, _, rfl, rfl, _, rfl, p, C, dx, _, rfl, hp, T.cl, T.nA, by rw [mf_eq]; show 3 < 1000; decide, ?_⟩
    rw [mf_put]
    have sb : Sb p H (upd H p (.ins C dx (mf vh vm ((i : Int) + 1)))) := sb_upd _
    have ex := sb.ext hp
    refine ⟨_, rfl, p, C, dx, _, _, rfl, upd_same, T.cl, T.nM, mf_marks _ _ _, _, rfl, p, C, dx, _, _, rfl, upd_same, T.cl, T.nA, mf_at _ _ _, _, _, rfl, rfl, ?_⟩
    refine rIx_ok (tm.ext ex).r (Has.int _).r (by rw [show ((i : Int) + 1) - 1 = (i : Int) by omega]; exact hw) fun z H1 s1 h1 => ?_
    have ex1 := ex.trans (same_ext s1)
    exact q _ _ (sb.trans (sb_same s1)) ⟨dx, vh, vm, s1 _ _ upd_same, th.ext ex1, tm.ext ex1⟩ h1
theorem ok_hand (T : MTxt K mg C CN) (F : FD K "hand" "Marks.hand" sHand f fd) : FnOk P w K mg base (L2.CX P w) 1 f fd ["self", "lane"] (spHand K C CN) := by
  refine F.ok scH (fun vs H Q E h => ?_) (fun cdv A outer s H vs Q E hr h => ?_)
  · obtain ⟨p, hs, ms, i, v, d, r, rfl, _⟩ := h
    rfl
  · obtain ⟨p, hs, ms, i, v, d, r, rfl, ⟨dx, vh, vm, hp, th, tm⟩, hv, hw, q, qe⟩ := h
    refine ⟨_, pss_cons (ps_if (pt_not (pt_chain (opC (hu_of' hr) .LtE) (opC (hu_of' hr) .Lt) pe_int (pv 1) (pe_callB cr_len (by rfl) T.len PySem.boot_len (pa_cons (pe_fld (pv 0) rfl) pa_nil))))
      (pss_one (ps_raise rfl tkX (pmk_own PySem.F.excBase_ValueError T.ex T.gN T.ek (raises_own T.es T.et) (by rfl)))) pss_nil) (pss_one (ps_ret (pe_ix ix_seq (pe_fld (pv 0) rfl) (pv 1) (ixP rfl)))), ?_⟩
    unfold handP at hw
    split at hw <;> first | (cases hw; done) | skip
    rename_i l
    obtain rfl := hv.r.intE
    refine ⟨_, rfl, .int 0, .int l, decide (0 ≤ l), (Has.int (K := K) (H := H) 0).r, (Has.int (K := K) (H := H) l).r, leI _ _, _, rfl, ?_⟩
    have bad : r = none → E (.ref CN) none H := fun e => qe e H (Same.refl _)
    by_cases h0 : 0 ≤ l
    · rw [decide_eq_true h0, if_pos rfl]
      refine ⟨_, rfl, p, C, dx, _, _, rfl, hp, T.cl, T.nH, mf_hands _ _ _, [.tuple hs], .int hs.length, .one th.r, rfl, fun z H1 s1 hz => ?_⟩
      refine ⟨.int l, .int hs.length, decide (l < hs.length), (Has.int (K := K) (H := H1) l).r, hz.r, ltI _ _, _, rfl, ?_⟩
      by_cases h1 : l < hs.length
      · rw [if_pos ⟨h0, h1⟩] at hw
        obtain ⟨x, hx, rfl⟩ := Option.map_eq_some_iff.mp hw
        rw [decide_eq_true h1]
        refine iteF ⟨_, rfl, p, C, dx, _, _, rfl, s1 _ _ hp, T.cl, T.nH, mf_hands _ _ _, _, rfl, rIx_ok (th.ext (same_ext s1)).r (Has.int _).r hx fun z2 H2 s2 h2 => q x rfl _ _ (s1.trans s2) h2⟩
      · rw [if_neg fun z => h1 z.2] at hw
        cases hw
        rw [decide_eq_false h1]
        exact iteT (qe rfl _ s1)
    · rw [if_neg fun z => h0 z.1] at hw
      cases hw
      rw [decide_eq_false h0, if_neg Bool.false_ne_true]
      exact ⟨_, rfl, iteT (qe rfl _ (Same.refl _))⟩
structure MAll (K : PySem.W.Frag) (mg : Str → Option Value) (C CN fI fW fT fS f1 fH : Addr) (dI dW dT dS d1 dH : FuncData) : Prop where
  T : MTxt K mg C CN
  mkI : Mk K C fI
  FI : FD K "__init__" "Marks.__init__" sInit fI dI
  FW : FD K "next_word" "Marks.next_word" sWord fW dW
  FT : FD K "take" "Marks.take" sTake fT dT
  FS : FD K "steps" "Marks.steps" sSteps fS dS
  F1 : FD K "step" "Marks.step" sStep f1 d1
  FH : FD K "hand" "Marks.hand" sHand fH dH
  bI : Binds K dI ["self", "hands", "marks"] []
  bW : Binds K dW ["self"] []
  bT : Binds K dT ["self"] []
  bS : Binds K dS ["self"] []
  b1 : Binds K d1 ["self"] []
  bH : Binds K dH ["self", "lane"] []
  mW : Meth K C "next_word" fW
  mT : Meth K C "take" fT
  mS : Meth K C "steps" fS
  m1 : Meth K C "step" f1
  mH : Meth K C "hand" fH
variable {fI fW fT fS f1 fH : Addr} {dI dW dT dS d1 dH : FuncData}
theorem ok_steps (M : MAll K mg C CN fI fW fT fS f1 fH dI dW dT dS d1 dH) {fu n : Nat} (G1 : FnOk P w K mg base (L2.CX P w) (n + 1) f1 d1 ["self"] (spRun K C CN fun hs ms i => MP hs ms fu n false i)) :
    FnOk P w K mg base (L2.CX P w) (n + 2) fS dS ["self"] (spRun K C CN fun hs ms i => MP hs ms fu (n + 1) true i) := by
  have T := M.T
  have GW : FnOk P w K mg base (L2.CX P w) 1 fW dW ["self"] (spWord K C) := ok_word T M.FW
  refine M.FS.ok scS (fun vs H Q E h => ?_) (fun cdv A outer s H vs Q E hr h => ?_)
  · obtain ⟨p, hs, ms, i, r, rfl, _⟩ := h
    rfl
  · obtain ⟨p, hs, ms, i, r, rfl, hm, hw, q, qe⟩ := h
    have hr1 : Room 1 _ := hr.mono (by omega)
    refine ⟨_, pss_cons (ps_set (i := 1) scS.nd rfl (Or.inl rfl) (pe_lst pa_nil))
      (pss_cons (ps_while owX (pt_cmpR (opC (hu_of' hr) .In) (pe_meth0 (pv 0) T.cl M.mW GW hr1 M.bW .nil psX) (pe_tupF (pa_cons pe_str (pa_cons pe_str pa_nil))) rfl)
        (pss_one (ps_expr (pe_bm PySem.F.plainAttrs_list PySem.F.slot_list_append PySem.F.type_list_append mt_append (pv 1) (pa_cons (pe_meth0 (pv 0) T.cl M.m1 G1 hr M.b1 .nil psX) pa_nil)))))
      (pss_one (ps_ret (pe_callTy cr_tuple (by rfl) T.tup (by kernel_rfl) (pa_cons (pv 1) pa_nil))))), ?_⟩
    refine ⟨Nat.zero_le _, fun a ha => ?_⟩
    have hpa : p ≠ a := by
      obtain ⟨dx, vh, vm, hp, _⟩ := hm
      exact ne_of_none hp ha
    refine ⟨fun m σ H2 => σ = [some (.ref p), some (.ref a)] ∧ ∃ j acc us, Sb p H H2 ∧ MkAt K C H2 p hs ms j ∧ H2 a = some (.lst us) ∧ HasAll K H2 us acc ∧ loopS ms (fun i => MP hs ms fu n false i) m j acc = some r, ⟨fu, rfl, i, [], [], sb_fresh _ ha, hm.mono (same_upd ha _), upd_same, .nil, hw⟩, ?_⟩
    rintro m σ H2 ⟨rfl, j, acc, us, sb, hm2, hl, tl, hL⟩
    cases m with
    | zero => cases hL
    | succ m =>
      unfold loopS at hL
      obtain ⟨wd, hwd, hL⟩ := bs hL
      obtain ⟨b, hb, hL⟩ := bs hL
      refine rd_word rfl hm2 hwd fun v H3 s3 hv => ?_
      refine ⟨by show 2 ≤ sizeLine; rw [sizeLine_eq]; decide, fun p2 o hp2 ho => ?_⟩
      have s4 := same_upd hp2 (.frz o (.tup [.str "letter", .str "head"]))
      refine ⟨wd, lhW, b, (hv.ext (same_ext s4)).r, (Has.tup ⟨o, upd_same, ho⟩ (.cons (.str _) (.cons (.str _) .nil))).r, hb, b, rfl, ?_⟩
      have s34 := s3.trans s4
      cases b with
      | false =>
        rw [if_neg Bool.false_ne_true] at hL
        cases hL
        refine iteF ?_
        refine ⟨_, rfl, [.list acc], .tuple acc, .one ⟨a, us, rfl, .inl (s34 _ _ hl), tl.ext (same_ext s34)⟩, rfl, fun z H5 s5 h5 => ?_⟩
        exact q _ _ rfl _ _ (sb.trans (sb_same (s34.trans s5))) (hm2.mono (s34.trans s5)) h5
      | true =>
        rw [if_pos rfl] at hL
        obtain ⟨r1, hr1', hL⟩ := bs hL
        refine iteT ⟨fun σ' H' => ∃ m', m' < m + 1 ∧ σ' = [some (.ref p), some (.ref a)] ∧ ∃ j acc us, Sb p H H' ∧ MkAt K C H' p hs ms j ∧ H' a = some (.lst us) ∧ HasAll K H' us acc ∧ loopS ms (fun i => MP hs ms fu n false i) m' j acc = some r, fun σ' H' z => z, ?_⟩
        have hl4 := s34 _ _ hl
        refine ⟨_, rfl, .inl ⟨rfl, _, rd_sq (.inl hl4)⟩, ?_⟩
        refine rd_run rfl (hm2.mono s34) nm_step hr1' (fun d j2 e v5 H5 sb5 hm5 h5 => ?_) fun e H5 sb5 => ?_
        · subst e
          have hL : (if szOk (acc.length + 1) = true then loopS ms (fun i => MP hs ms fu n false i) m j2 (acc ++ [d]) else none) = some r := hL
          split at hL <;> first | (cases hL; done) | skip
          rename_i hz
          have hz := szOk_le hz
          have hl5 := sb5 a _ (Ne.symm hpa) hl4
          have ex5 := (hm2.mono s34).ext sb5
          have lz := tl.length
          refine ⟨a, us, v5, rfl, rfl, hl5, by omega, m, Nat.lt_succ_self _, rfl, j2, acc ++ [d], us ++ [v5], ?_, ?_, upd_same, ?_, hL⟩
          · intro b o nb hb
            have nba : b ≠ a := ne_of_none hb ha
            rw [upd_ne nba]
            exact sb5 b o nb (s34 _ _ (sb b o nb hb))
          · obtain ⟨dx, vh, vm, k1, k2, k3⟩ := hm5
            have exA : Ext H5 (upd H5 a (.lst (us ++ [v5]))) := ⟨fun b xs e => by rw [upd_ne (by intro z; rw [z, hl5] at e; cases e)]; exact e, fun b o u e => by rw [upd_ne (by intro z; rw [z, hl5] at e; cases e)]; exact e⟩
            exact ⟨dx, vh, vm, by rw [upd_ne hpa]; exact k1, k2.ext exA, k3.ext exA⟩
          · have exA : Ext H5 (upd H5 a (.lst (us ++ [v5]))) := ⟨fun b xs e => by rw [upd_ne (by intro z; rw [z, hl5] at e; cases e)]; exact e, fun b o u e => by rw [upd_ne (by intro z; rw [z, hl5] at e; cases e)]; exact e⟩
            exact (((tl.ext (same_ext s34)).ext ex5).append (.one h5)).ext exA
        · subst e
          have hL : some none = some r := hL
          cases hL
          exact qe rfl _ ((sb.trans (sb_same s34)).trans sb5)
theorem ok_step (M : MAll K mg C CN fI fW fT fS f1 fH dI dW dT dS d1 dH) {fu n : Nat} (GS : FnOk P w K mg base (L2.CX P w) (n + 1) fS dS ["self"] (spRun K C CN fun hs ms i => MP hs ms fu n true i)) :
    FnOk P w K mg base (L2.CX P w) (n + 2) f1 d1 ["self"] (spRun K C CN fun hs ms i => MP hs ms fu (n + 1) false i) := by
  have T := M.T
  have GW : FnOk P w K mg base (L2.CX P w) 1 fW dW ["self"] (spWord K C) := ok_word T M.FW
  have GT : FnOk P w K mg base (L2.CX P w) 1 fT dT ["self"] (spTake K C) := ok_take T M.FT
  have GH : FnOk P w K mg base (L2.CX P w) 1 fH dH ["self", "lane"] (spHand K C CN) := ok_hand T M.FH
  refine M.F1.ok sc1 (fun vs H Q E h => ?_) (fun cdv A outer s H vs Q E hr h => ?_)
  · obtain ⟨p, hs, ms, i, r, rfl, _⟩ := h
    rfl
  · obtain ⟨p, hs, ms, i, r, rfl, hm, hw, q, qe⟩ := h
    have hr1 : Room 1 _ := hr.mono (by omega)
    refine ⟨_, pss_cons (ps_set (i := 1) sc1.nd rfl (Or.inl rfl) (pe_meth0 (pv 0) T.cl M.mT GT hr1 M.bT .nil psX))
      (pss_cons (ps_if (pt_cmpR (opC (hu_of' hr) .Eq) (pe_ix ix_seq (pv 1) pe_int (ixP rfl)) pe_str (nomark _))
        (pss_one (ps_ret (pe_tupF (pa_cons pe_str (pa_cons (pe_meth (pv 0) T.cl M.mH GH hr1 M.bH .nil psX (pa_cons (pe_ix ix_seq (pv 1) pe_int (ixP rfl)) pa_nil)) (pa_cons (pe_meth (pv 0) T.cl M.mH GH hr1 M.bH .nil psX (pa_cons (pe_ix ix_seq (pv 1) pe_int (ixP rfl)) pa_nil)) (pa_cons (pe_ix ix_seq (pv 1) pe_int (ixP rfl)) pa_nil))))))) pss_nil)
      (pss_cons (ps_set (i := 2) sc1.nd rfl (Or.inl rfl) (pe_lst (pa_cons (pe_meth0 (pv 0) T.cl M.mS GS hr M.bS .nil psX) pa_nil)))
      (pss_cons (ps_while owX (pt_cmpR (opC (hu_of' hr) .Eq) (pe_meth0 (pv 0) T.cl M.mW GW hr1 M.bW .nil psX) pe_str (nomark _))
        (pss_cons (ps_expr (pe_meth0 (pv 0) T.cl M.mT GT hr1 M.bT .nil psX))
          (pss_one (ps_expr (pe_bm PySem.F.plainAttrs_list PySem.F.slot_list_append PySem.F.type_list_append mt_append (pv 2) (pa_cons (pe_meth0 (pv 0) T.cl M.mS GS hr M.bS .nil psX) pa_nil))))))
      (pss_cons (ps_if (pt_cmpR (opC (hu_of' hr) .NotEq) (pe_meth0 (pv 0) T.cl M.mW GW hr1 M.bW .nil psX) pe_str (nomark _)) (pss_one (ps_raise rfl tkX (pmk_own PySem.F.excBase_ValueError T.ex T.gN T.ek (raises_own T.es T.et) (by rfl)))) pss_nil)
      (pss_cons (ps_expr (pe_meth0 (pv 0) T.cl M.mT GT hr1 M.bT .nil psX))
      (pss_cons (ps_if (pt_cmpR (opC (hu_of' hr) .Eq) (pe_ix ix_seq (pv 1) pe_int (ixP rfl)) pe_str (nomark _)) (pss_one (ps_ret (pe_tupF (pa_cons pe_str (pa_cons (pe_callTy cr_tuple (by rfl) T.tup (by kernel_rfl) (pa_cons (pv 2) pa_nil)) pa_nil))))) pss_nil)
      (pss_one (ps_ret (pe_op (opG opD_add) (pe_tupF (pa_cons (pe_ix ix_seq (pv 1) pe_int (ixP rfl)) pa_nil)) (pe_callTy cr_tuple (by rfl) T.tup (by kernel_rfl) (pa_cons (pv 2) pa_nil))))))))))), ?_⟩
    have hw : ((idxEv (.tuple ms) (.int i)).bind fun mark => (idxEv mark (.int 0)).bind fun w => (cmpEv .eq w (.str "letter")).bind fun b =>
      if b then tellP hs mark i
      else (MP hs ms fu n true (i + 1)).bind fun r => nxR r fun q => (loopL ms (MP hs ms fu n true) fu q.2 [q.1]).bind fun r2 => nxR r2 fun q2 => shutP ms mark q2.1 q2.2) = some r := hw
    obtain ⟨mark, hmk, hw⟩ := bs hw
    obtain ⟨w0, hw0, hw⟩ := bs hw
    obtain ⟨b, hb, hw⟩ := bs hw
    refine rd_take rfl hm hmk fun v1 H1 sb1 hm1 h1 => ?_
    refine rd_ix rfl h1 hw0 fun z2 H2 s2 h2 => ?_
    refine ⟨w0, .str "letter", b, h2.r, (Has.str _).r, hb, b, rfl, ?_⟩
    have hm2 := hm1.mono s2
    have sb2 := sb1.trans (sb_same s2)
    have h1 := h1.ext (same_ext s2)
    cases b with
    | true =>
      rw [if_pos rfl] at hw
      refine iteT ?_
      unfold tellP at hw
      obtain ⟨la, hla, hw⟩ := bs hw
      obtain ⟨ra, hra, hw⟩ := bs hw
      refine rd_hand rfl hm2 (rd_ix rfl h1 hla fun z3 H3 s3 h3 => ⟨p, hs, ms, i + 1, z3, la, ra, rfl, hm2.mono s3, h3, hra, fun x ex v4 H4 s4 h4 => ?_, fun ex H4 s4 => ?_⟩)
      · subst ex
        have hw : ((idxEv mark (.int 3)).bind fun b => (handP hs b).bind fun rb => nxR rb fun y => (idxEv mark (.int 4)).bind fun z => some (some (PyData.tuple [.str "tell", x, y, z], i + 1))) = some r := hw
        obtain ⟨lb, hlb, hw⟩ := bs hw
        obtain ⟨rb, hrb, hw⟩ := bs hw
        have s24 := s3.trans s4
        refine rd_hand rfl (hm2.mono s24) (rd_ix rfl (h1.ext (same_ext s24)) hlb fun z5 H5 s5 h5 => ⟨p, hs, ms, i + 1, z5, lb, rb, rfl, (hm2.mono s24).mono s5, h5, hrb, fun y ey v6 H6 s6 h6 => ?_, fun ey H6 s6 => ?_⟩)
        · subst ey
          have hw : ((idxEv mark (.int 4)).bind fun z => some (some (PyData.tuple [.str "tell", x, y, z], i + 1))) = some r := hw
          obtain ⟨lz, hlz, hw⟩ := bs hw
          cases hw
          have s26 := (s24.trans s5).trans s6
          refine rd_ix rfl (h1.ext (same_ext s26)) hlz fun z7 H7 s7 h7 => ?_
          refine ⟨by show 4 ≤ sizeLine; rw [sizeLine_eq]; decide, tup_end (ds := [.str "tell", x, y, lz]) (.cons (.str _) (.cons (h4.ext (same_ext ((s5.trans s6).trans s7))) (.cons (h6.ext (same_ext s7)) (.cons h7 .nil)))) fun z8 H8 s8 h8 => ?_⟩
          have s28 := (s26.trans s7).trans s8
          exact q _ _ rfl _ _ (sb2.trans (sb_same s28)) (hm2.mono s28) h8
        · subst ey
          have hw : some none = some r := hw
          cases hw
          exact qe rfl _ (sb2.trans (sb_same ((s24.trans s5).trans s6)))
      · subst ex
        have hw : some none = some r := hw
        cases hw
        exact qe rfl _ (sb2.trans (sb_same (s3.trans s4)))
    | false =>
      rw [if_neg Bool.false_ne_true] at hw
      refine iteF ?_
      obtain ⟨r1, hr1', hw⟩ := bs hw
      refine rd_run rfl hm2 nm_steps hr1' (fun d1 j1 e1 v3 H3 sb3 hm3 h3 => ?_) fun e1 H3 sb3 => ?_
      · subst e1
        have hw : ((loopL ms (MP hs ms fu n true) fu j1 [d1]).bind fun r2 => nxR r2 fun q2 => shutP ms mark q2.1 q2.2) = some r := hw
        obtain ⟨r2, hr2, hw⟩ := bs hw
        refine ⟨by show 1 ≤ sizeLine; rw [sizeLine_eq]; decide, fun a ha => ?_⟩
        have h1 := h1.ext (hm2.ext sb3)
        have hpa : p ≠ a := by
          obtain ⟨dx, vh, vm, hp, _⟩ := hm3
          exact ne_of_none hp ha
        have sA := same_upd ha (.lst [v3])
        refine ⟨fun m σ H4 => σ = [some (.ref p), some v1, some (.ref a)] ∧ ∃ j acc us, Sb p H3 H4 ∧ MkAt K C H4 p hs ms j ∧ H4 a = some (.lst us) ∧ HasAll K H4 us acc ∧ Has K H4 v1 mark ∧ loopL ms (MP hs ms fu n true) m j acc = some r2, ⟨fu, rfl, j1, [d1], [v3], sb_same sA, hm3.mono sA, upd_same, .one (h3.ext (same_ext sA)), h1.ext (same_ext sA), hr2⟩, ?_⟩
        rintro m σ H4 ⟨rfl, j, acc, us, sb4, hm4, hl, tl, hk, hL⟩
        cases m with
        | zero => cases hL
        | succ m =>
          unfold loopL at hL
          obtain ⟨wd, hwd, hL⟩ := bs hL
          obtain ⟨b, hb2, hL⟩ := bs hL
          refine rd_word rfl hm4 hwd fun v5 H5 s5 h5 => ?_
          refine ⟨wd, .str "line", b, h5.r, (Has.str _).r, hb2, b, rfl, ?_⟩
          cases b with
          | true =>
            rw [if_pos rfl] at hL
            obtain ⟨dl, hdl, hL⟩ := bs hL
            obtain ⟨r5, hr5, hL⟩ := bs hL
            refine iteT ⟨fun σ' H' => ∃ m', m' < m + 1 ∧ σ' = [some (.ref p), some v1, some (.ref a)] ∧ ∃ j acc us, Sb p H3 H' ∧ MkAt K C H' p hs ms j ∧ H' a = some (.lst us) ∧ HasAll K H' us acc ∧ Has K H' v1 mark ∧ loopL ms (MP hs ms fu n true) m' j acc = some r2, fun σ' H' z => z, ?_⟩
            have hl5 := s5 _ _ hl
            refine rd_take rfl (hm4.mono s5) hdl fun v6 H6 sb6 hm6 h6 => ?_
            have hl6 := sb6 a _ (Ne.symm hpa) hl5
            have ex6 := (same_ext s5).trans ((hm4.mono s5).ext sb6)
            refine ⟨_, rfl, .inl ⟨rfl, _, rd_sq (.inl hl6)⟩, ?_⟩
            refine rd_run rfl hm6 nm_steps hr5 (fun d7 j7 e v7 H7 sb7 hm7 h7 => ?_) fun e H7 sb7 => ?_
            · subst e
              have hL : (if szOk (acc.length + 1) = true then loopL ms (MP hs ms fu n true) m j7 (acc ++ [d7]) else none) = some r2 := hL
              split at hL <;> first | (cases hL; done) | skip
              rename_i hz
              have hz := szOk_le hz
              have hl7 := sb7 a _ (Ne.symm hpa) hl6
              have ex7 := ex6.trans (hm6.ext sb7)
              have lz := tl.length
              refine ⟨a, us, v7, rfl, rfl, hl7, by omega, m, Nat.lt_succ_self _, rfl, j7, acc ++ [d7], us ++ [v7], ?_, hm7.grow hl7, upd_same, ?_, ?_, hL⟩
              · intro b o nb hb
                have nba : b ≠ a := ne_of_none hb ha
                rw [upd_ne nba]
                exact sb7 b o nb (sb6 b o nb (s5 _ _ (sb4 b o nb hb)))
              · exact ((tl.ext ex7).append (.one h7)).ext (grow_ext hl7)
              · exact (hk.ext ex7).ext (grow_ext hl7)
            · subst e
              have hL : some none = some r2 := hL
              cases hL
              have hw : some none = some r := hw
              cases hw
              exact qe rfl _ ((((sb2.trans sb3).trans sb4).trans (sb_same s5)).trans (sb6.trans sb7))
          | false =>
            rw [if_neg Bool.false_ne_true] at hL
            cases hL
            refine iteF ?_
            have hw : shutP ms mark acc j = some r := hw
            unfold shutP at hw
            obtain ⟨wf, hwf, hw⟩ := bs hw
            obtain ⟨bf, hbf, hw⟩ := bs hw
            have hm5 := hm4.mono s5
            have sb5 := ((sb2.trans sb3).trans sb4).trans (sb_same s5)
            refine rd_word rfl hm5 hwf fun v6 H6 s6 h6 => ?_
            refine ⟨wf, .str "foot", bf, h6.r, (Has.str _).r, hbf, bf, rfl, ?_⟩
            cases bf with
            | true =>
              rw [if_pos rfl] at hw
              cases hw
              exact iteT (qe rfl _ (sb5.trans (sb_same s6)))
            | false =>
              rw [if_neg Bool.false_ne_true] at hw
              obtain ⟨df, hdf, hw⟩ := bs hw
              obtain ⟨kd, hkd, hw⟩ := bs hw
              obtain ⟨bc, hbc, hw⟩ := bs hw
              refine iteF ?_
              have hm6 := hm5.mono s6
              refine rd_take rfl hm6 hdf fun v7 H7 sb7 hm7 h7 => ?_
              have s56 := s5.trans s6
              have ex7 := (same_ext s56).trans (hm6.ext sb7)
              have hk7 := hk.ext ex7
              have hl7 := sb7 a _ (Ne.symm hpa) (s56 _ _ hl)
              have tl7 := tl.ext ex7
              have sbT := (sb5.trans (sb_same s6)).trans sb7
              refine rd_ix rfl hk7 hkd fun z8 H8 s8 h8 => ?_
              refine ⟨kd, .str "choice", bc, h8.r, (Has.str _).r, hbc, bc, rfl, ?_⟩
              cases bc with
              | true =>
                rw [if_pos rfl] at hw
                cases hw
                refine iteT (rd_tuple rfl (s8 _ _ hl7) (tl7.ext (same_ext s8)) fun z9 H9 s9 h9 => ?_)
                refine ⟨by show 2 ≤ sizeLine; rw [sizeLine_eq]; decide, tup_end (ds := [.str "choice", .tuple acc]) (.cons (.str _) (.one h9)) fun z10 H10 s10 h10 => ?_⟩
                have s7 := (s8.trans s9).trans s10
                exact q _ _ rfl _ _ (sbT.trans (sb_same s7)) (hm7.mono s7) h10
              | false =>
                rw [if_neg Bool.false_ne_true] at hw
                obtain ⟨tt, htt, hw⟩ := bs hw
                cases hw
                refine iteF (rd_ix rfl (hk7.ext (same_ext s8)) hkd fun z9 H9 s9 h9 => ?_)
                refine ⟨by show 1 ≤ sizeLine; rw [sizeLine_eq]; decide, tup_end (ds := [kd]) (.one h9) fun z10 H10 s10 h10 => ?_⟩
                have s810 := (s8.trans s9).trans s10
                refine rd_tuple rfl (s810 _ _ hl7) (tl7.ext (same_ext s810)) fun z11 H11 s11 h11 => ?_
                refine ⟨.tuple [kd], .tuple acc, tt, (h10.ext (same_ext s11)).r, h11.r, htt, fun z12 H12 s12 h12 => ?_⟩
                have s7 := (s810.trans s11).trans s12
                exact q _ _ rfl _ _ (sbT.trans (sb_same s7)) (hm7.mono s7) h12
      · subst e1
        have hw : some none = some r := hw
        cases hw
        exact qe rfl _ (sb2.trans sb3)
theorem ok_runs (M : MAll K mg C CN fI fW fT fS f1 fH dI dW dT dS d1 dH) {fu : Nat} : ∀ n : Nat, FnOk P w K mg base (L2.CX P w) (n + 1) fS dS ["self"] (spRun K C CN fun hs ms i => MP hs ms fu n true i) ∧ FnOk P w K mg base (L2.CX P w) (n + 1) f1 d1 ["self"] (spRun K C CN fun hs ms i => MP hs ms fu n false i)
  | 0 => by
    have no : ∀ b vs H Q E, ¬ spRun K C CN (fun hs ms i => MP hs ms fu 0 b i) vs H Q E := fun b vs H Q E ⟨_, _, _, _, _, _, _, h, _⟩ => by
      have h : none = some _ := h
      cases h
    exact ⟨⟨fun vs H Q E h => absurd h (no _ vs H Q E), fun A outer s H args us vs Q E _ _ _ _ h => absurd h (no _ vs H Q E)⟩, ⟨fun vs H Q E h => absurd h (no _ vs H Q E), fun A outer s H args us vs Q E _ _ _ _ h => absurd h (no _ vs H Q E)⟩⟩
  | n + 1 => ⟨ok_steps M (ok_runs M n).2, ok_step M (ok_runs M n).1⟩
noncomputable abbrev sUnl : Stmt := n_unlaid.st
theorem scU : FnScope ["hands", "marks", "found", "reader"] ["hands", "marks"] (defScope sUnl) := scB_ok (by decide +kernel)
theorem at_at : True := trivial
theorem ok_unlaid (M : MAll K mg C CN fI fW fT fS f1 fH dI dW dT dS d1 dH) {fu k D : Nat} {f : Addr} {fd : FuncData} {tf : Str → Option Df} {g : Str → Option PyData} {fuel : Nat} (hp : tf ("#" : Str) = some d_probe) (all : AllAt P w K mg base TT (callAt tf g fuel k) k) (F : FD K "unlaid" "unlaid" sUnl f fd) :
    FnOk P w K mg base (L2.CX P w) (k + 1) f fd ["hands", "marks"] (spU K CN (unlP D fu (callAt tf g fuel k))) := by
  have T := M.T
  obtain ⟨fa, da, pa, ga, ka, ba, GA⟩ := all "is_talk" 1 rfl
  obtain ⟨fl, dl, pl, gl, kl, bl, GL⟩ := all "laid" 1 rfl
  refine F.ok scU (fun vs H Q E h => ?_) (fun cdv A outer s H vs Q E hr h => ?_)
  · obtain ⟨vh, vm, hs, ms, r, rfl, _⟩ := h
    rfl
  · obtain ⟨vh, vm, hs, ms, r, rfl, th, tm, hw, q, qe⟩ := h
    unfold unlP at hw
    obtain ⟨pr, hpr, hw⟩ := bs hw
    have hD : D < k := probe_lt hp hpr
    obtain ⟨r1, hr1, hw⟩ := bs hw
    have GS : FnOk P w K mg base (L2.CX P w) (D + 1) fS dS ["self"] (spRun K C CN fun hs ms i => MP hs ms fu D true i) := (ok_runs M D).1
    have GI : FnOk P w K mg base (L2.CX P w) 1 fI dI ["self", "hands", "marks"] (spInitM K C) := ok_init T M.FI
    have hrS : Room (D + 1) _ := hr.mono (by omega)
    cases hD0 : D with
    | zero =>
      rw [hD0] at hr1
      have hr1 : none = some r1 := hr1
      cases hr1
    | succ D' =>
    have hrI : Room 2 _ := hr.mono (by omega)
    clear hD0
    refine ⟨_, pss_cons (ps_set (i := 3) scU.nd rfl (Or.inl rfl) (pe_make M.mkI GI hrI (by rfl) T.gC M.bI .nil psX (pa_cons (pv 0) (pa_cons (pv 1) pa_nil))))
      (pss_cons (ps_set (i := 2) scU.nd rfl (Or.inl rfl) (pe_tupF (pa_cons (pv 0) (pa_cons (pe_meth0 (pv 3) T.cl M.mS GS hrS M.bS .nil psX) pa_nil))))
      (pss_cons (ps_if (PW.pt (pw_or (pt_cmpR (opC (hu_of' hr) .Lt) (pe_fld (pv 3) rfl) (pe_callB cr_len (by rfl) T.len PySem.boot_len (pa_cons (pv 1) pa_nil)) (nomark _))
          (pw_or (pt_not (pt_val (pe_call (E := E0) GA hr (by rfl) ga ka ba .nil passZ (pa_cons (pv 2) pa_nil))))
            (pw_or1 (pt_cmpR (opC (hu_of' hr) .NotEq) (pe_call (E := E0) GL hr (by rfl) gl kl bl .nil passZ (pa_cons (pv 2) pa_nil)) (pv 1) (nomark _))))))
          (pss_one (ps_raise rfl tkX (pmk_own PySem.F.excBase_ValueError T.ex T.gN T.ek (raises_own T.es T.et) (by rfl)))) pss_nil)
      (pss_one (ps_ret (pv 2))))), ?_⟩
    refine ⟨vh, rfl, vm, rfl, fun x dx nx ndx nex => ?_⟩
    have s0 : Same H (upd (upd H dx (.own x)) x (.ins C dx [])) := fun b o e => by
      rw [upd_ne (ne_of_none e nx), upd_ne (ne_of_none e ndx)]
      exact e
    refine ⟨x, dx, vh, vm, hs, ms, rfl, upd_same, th.ext (same_ext s0), tm.ext (same_ext s0), fun H1 sb1 hm1 => ⟨rfl, ?_⟩⟩
    have s1 : Same H H1 := fun b o e => sb1 b o (ne_of_none e nx) (s0 _ _ e)
    refine ⟨vh, rfl, ?_⟩
    refine rd_run (j := 3) rfl hm1 nm_steps hr1 (fun d2 j2 e v2 H2 sb2 hm2 h2 => ?_) fun e H2 sb2 => ?_
    · subst e
      have s2 : Same H H2 := fun b o e => sb2 b o (ne_of_none e nx) (s1 _ _ e)
      refine ⟨by show 2 ≤ sizeLine; rw [sizeLine_eq]; decide, tup_end (ds := [.tuple hs, d2]) (.cons (th.ext (same_ext s2)) (.one h2)) fun z3 H3 s3 h3 => ?_⟩
      have s03 := s2.trans s3
      obtain ⟨dx3, vh3, vm3, hp3, th3, tm3⟩ := hm2.mono s3
      refine ⟨_, rfl, x, C, dx3, _, _, rfl, hp3, T.cl, T.nA, mf_at _ _ _, _, rfl, [.tuple ms], .int ms.length, .one (tm.ext (same_ext s03)).r, rfl, fun z4 H4 s4 h4 => ?_⟩
      refine ⟨.int j2, .int ms.length, decide ((j2 : Int) < ms.length), (Has.int (K := K) (H := H4) j2).r, h4.r, ltI _ _, _, rfl, ?_⟩
      have s04 := s03.trans s4
      have hw : (if j2 < ms.length then some none else
        (callAt tf g fuel k "is_talk" [.tuple [.tuple hs, d2]]).bind fun b => match b with
          | .bool true => (callAt tf g fuel k "laid" [.tuple [.tuple hs, d2]]).bind fun l => (cmpEv .ne l (.tuple ms)).bind fun ne => if ne then some none else some (some (PyData.tuple [.tuple hs, d2]))
          | .bool false => some none
          | _ => none) = some r := hw
      by_cases hj : j2 < ms.length
      · rw [if_pos hj] at hw
        cases hw
        rw [decide_eq_true (by omega)]
        exact iteT (iteT (qe rfl _ s04))
      · rw [if_neg hj] at hw
        rw [decide_eq_false (by omega)]
        obtain ⟨b5, hb5, hw⟩ := bs hw
        have h34 := h3.ext (same_ext s4)
        refine iteF ⟨z3, rfl, [.tuple [.tuple hs, d2]], b5, .one h34, hb5, fun v5 H5 s5 h5 => ?_⟩
        split at hw <;> first | (cases hw; done) | skip
        · obtain ⟨l6, hl6, hw⟩ := bs hw
          obtain ⟨ne6, hne, hw⟩ := bs hw
          have s05 := s04.trans s5
          refine ⟨true, h5.r.blE, iteF ⟨z3, rfl, [.tuple [.tuple hs, d2]], l6, .one (h34.ext (same_ext s5)), hl6, fun v6 H6 s6 h6 => ?_⟩⟩
          have s06 := s05.trans s6
          refine ⟨vm, rfl, l6, .tuple ms, ne6, h6.r, (tm.ext (same_ext s06)).r, hne, ne6, rfl, ?_⟩
          cases ne6 with
          | true =>
            rw [if_pos rfl] at hw
            cases hw
            exact iteT (qe rfl _ s06)
          | false =>
            rw [if_neg Bool.false_ne_true] at hw
            cases hw
            exact iteF ⟨z3, rfl, q _ rfl _ _ s06 (h34.ext (same_ext (s5.trans s6)))⟩
        · cases hw
          exact ⟨false, h5.r.blE, iteT (iteT (qe rfl _ (s04.trans s5)))⟩
    · subst e
      have hw : some none = some r := hw
      cases hw
      exact qe rfl _ fun b o e => sb2 b o (ne_of_none e nx) (s1 _ _ e)
end
/-- what the top has written -/
theorem mall_of {K : PySem.W.Frag} {h : Heap} {mg : Str → Option Value} (KX : K.In h) (G : h.Ns mainGlobals mg) (c : He.SaysD (faOf LL TT ++ faX) (fnOf LL ++ fnX) K) (F : Facts K mg LL TT (fun x => TT.consts.lookup x)) :
    ∃ (C CN fI fW fT fS f1 fH : Addr) (dI dW dT dS d1 dH : FuncData), MAll K mg C CN fI fW fT fS f1 fH dI dW dT dS d1 dH := by
  have fa : ∀ {f : He.Fa}, f ∈ faX → f.ok K = true := fun hf => fact_mem c (List.mem_append_right _ hf)
  have fn : ∀ {d : He.DefD}, d ∈ fnX → ∃ fd, FunD K d.name d.qual d.params d.body d.scope (d.dvs K) (d.kws K) (He.fAd K d.at_) fd := fun {d} hd => by
    obtain ⟨i, hi⟩ := List.getElem?_of_mem (List.mem_append_right (fnOf LL) hd)
    exact c.def_ i hi
  obtain ⟨dI, FI⟩ := fn (d := fnX[0]) (List.getElem_mem _)
  obtain ⟨dW, FW⟩ := fn (d := fnX[1]) (List.getElem_mem _)
  obtain ⟨dT, FT⟩ := fn (d := fnX[2]) (List.getElem_mem _)
  obtain ⟨dS, FS⟩ := fn (d := fnX[3]) (List.getElem_mem _)
  obtain ⟨d1, F1⟩ := fn (d := fnX[4]) (List.getElem_mem _)
  obtain ⟨dH, FH⟩ := fn (d := fnX[5]) (List.getElem_mem _)
  obtain ⟨e1, e2, e3, e4⟩ := He.exc_ok (fa (f := .exc "NoTalk") (by simp [faX]))
  refine ⟨He.ga K "Marks", He.ga K "NoTalk", He.ma K (He.ga K "Marks") "__init__", He.ma K (He.ga K "Marks") "next_word", He.ma K (He.ga K "Marks") "take", He.ma K (He.ga K "Marks") "steps", He.ma K (He.ga K "Marks") "step", He.ma K (He.ga K "Marks") "hand", dI, dW, dT, dS, d1, dH, ?_⟩
  exact {
    T := ⟨He.cls_ok (fa (by simp [faX])), He.noat_ok (fa (by simp [faX])), He.noat_ok (fa (by simp [faX])), He.noat_ok (fa (by simp [faX])), F.free _ (by decide +kernel), F.free _ (by decide +kernel), He.glo_ok KX G (fa (by simp [faX])), He.glo_ok KX G (fa (by simp [faX])), e1, e2, e3, e4⟩
    mkI := He.mkr_ok (fa (by simp [faX]))
    FI := FI
    FW := FW
    FT := FT
    FS := FS
    F1 := F1
    FH := FH
    bI := FI.bindsN fun _ _ _ _ _ _ us hl => match us, hl with | [_, _, _], _ => rfl
    bW := FW.bindsN fun _ _ _ _ _ _ us hl => match us, hl with | [_], _ => rfl
    bT := FT.bindsN fun _ _ _ _ _ _ us hl => match us, hl with | [_], _ => rfl
    bS := FS.bindsN fun _ _ _ _ _ _ us hl => match us, hl with | [_], _ => rfl
    b1 := F1.bindsN fun _ _ _ _ _ _ us hl => match us, hl with | [_], _ => rfl
    bH := FH.bindsN fun _ _ _ _ _ _ us hl => match us, hl with | [_, _], _ => rfl
    mW := He.meth_ok (fa (by simp [faX]))
    mT := He.meth_ok (fa (by simp [faX]))
    mS := He.meth_ok (fa (by simp [faX]))
    m1 := He.meth_ok (fa (by simp [faX]))
    mH := He.meth_ok (fa (by simp [faX])) }
theorem prims (w : World) (K : PySem.W.Frag) (mg : Str → Option Value) (h base : Heap) (KX : K.In h) (G : h.Ns mainGlobals mg) (c : He.SaysD (faOf LL TT ++ faX) (fnOf LL ++ fnX) K) (F : Facts K mg LL TT (fun x => TT.consts.lookup x)) (k : Nat)
    (all : AllAt PySem.Challenge.pw_lanerows_k42_whole_laid_in_parts w K mg base TT (callAt (tfP LL) (fun x => TT.consts.lookup x) 1000 k) k) (d : Dn) (hd : d ∈ LL) (hp : isP d = true) (hx : tfP LL d.x = some d.df) (fa : Addr) (fd : FuncData) (FF : FunD K d.x d.x (defArgs d.st) (defBody d.st) (defScope d.st) [] [] fa fd) :
    FnOk PySem.Challenge.pw_lanerows_k42_whole_laid_in_parts w K mg base CX0 (k + 1) fa fd d.ps (spF K (callAt (tfP LL) (fun x => TT.consts.lookup x) 1000 (k + 1) d.x)) := by
  obtain ⟨C, CN, fI, fW, fT, fS, f1, fH, dI, dW, dT, dS, d1, dH, M⟩ := mall_of KX G c F
  simp only [LL, List.mem_cons, List.not_mem_nil, or_false] at hd
  rcases hd with rfl | rfl | rfl | rfl | rfl | rfl | rfl | rfl | rfl | rfl | rfl | rfl | rfl | rfl | rfl | rfl | rfl | rfl | rfl | rfl | rfl | rfl
  all_goals first | (cases hp; done) | skip
  refine FnOk.calm (ok_unlaid M (fu := 1000) (D := 24) (by rfl) all FF) fun vs H Q E ⟨ds, r, t, h1, q⟩ => ?_
  obtain ⟨h2, h3⟩ := callAt_prim hx h1
  unfold unlOk at h3
  split at h3 <;> first | (cases h3; done) | skip
  rename_i hs ms
  split at h3 <;> first | (cases h3; done) | skip
  rename_i d' h4
  cases h3
  cases t with
  | cons ta tb =>
    cases tb with
    | cons tb tc =>
      cases tc
      exact ⟨_, _, hs, ms, _, rfl, ta, tb, h4, fun d e v H' s z => by cases e; exact q v H' s z, fun e => by cases e⟩
def lvl : Nat := 70
theorem two : Two (tfP LL) := ⟨⟨rfl, rfl, rfl, rfl⟩, rfl, rfl, rfl⟩
theorem unl : Unl (tfP LL) := ⟨⟨⟨rfl, rfl, rfl, rfl⟩, rfl⟩, ⟨rfl, rfl, rfl, rfl, rfl, rfl⟩, rfl, rfl⟩
theorem law_pure : ∀ ns : List Int, ns.length ≤ 63 → callAt (tfP LL) (fun x => TT.consts.lookup x) 1000 lvl ("law" : Str) [.list (ns.map .int)] = some (.bool true) := fun ns _ => k42_pure ⟨two, unl, rfl, rfl, rfl⟩ ⟨rfl, rfl, rfl, rfl, rfl⟩ rfl ns
end K42
end Lr

open PySem PySem.W PySem.Calls PyProof.Rows
set_option maxRecDepth 100000 in
set_option maxHeartbeats 0 in
theorem PySem.Challenge.cw_lanerows_k42_whole_laid_in_parts_holds : PySem.Challenge.rw_lanerows_k42_whole_laid_in_parts.Holds := by
  w_on; o_law
  refine HandSHeadRun.head_any (r := OpenLaw.row PySem.Challenge.rw_lanerows_k42_whole_laid_in_parts) (q := view (OpenLaw.row PySem.Challenge.rw_lanerows_k42_whole_laid_in_parts).prog [34]) (H := Lr.K42.hk) (ob := Lr.K42.ob) (M := 6000) (loose := Lr.K42.nms) (d := HandSHeadRun.topDef (OpenLaw.row PySem.Challenge.rw_lanerows_k42_whole_laid_in_parts).prog 34) (kwd := []) Lr.K42.ob_eq
    (by kernel_rfl) (fun s => by kernel_rfl) Lr.K42.run (by kernel_rfl) (by kernel_rfl) (by kernel_rfl) (by rfl) (by first | assumption | decide +kernel) (by decide +kernel) ⟨rfl, rfl, rfl, rfl, rfl, by decide +kernel⟩ ?hw ?hc
  case hw => w_witness2
  case hc => exact Lr.law_walkP (l := PySem.Challenge.rw_lanerows_k42_whole_laid_in_parts) (dl := Lr.K42.n_law) (k := Lr.K42.lvl) (tf := Lr.tfP Lr.K42.LL) rfl (by kernel_rfl) (by kernel_rfl) ⟨rfl, by decide, by decide⟩ rfl (fun _ _ => Lr.tfP_of) Lr.K42.fits Lr.K42.fitsP (by decide +kernel) (fun _ h => List.mem_append_left _ h) (fun _ h => List.mem_append_left _ h) (by simp [Lr.K42.LL]) rfl rfl rfl Lr.K42.prims Lr.K42.law_pure
