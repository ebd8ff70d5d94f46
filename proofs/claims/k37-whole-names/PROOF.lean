import PyProof.Rows.All
import Wide.All
import OpenK.AllK
import Wide.FinOn
import HandS.ForMost
import HandS.Deep
import HandS.TupSets
import HandS.SetFor
import HandS.Strs
import HandS.TupLe
import HandS.TupAny
import HandS.IsInst
import HandS.Conv
import HandS.Evl
import HandS.Walk
import HandS.Codes
import KE.DatumOrd
import KE.DatumIndex
import KE.SortData
import KE.GoesEnum
import PySem.Challenge.RW_passlights_k37_whole_names_of_lamps
/-! ## KwA -/
set_option Elab.async false
set_option linter.all false
set_option maxRecDepth 100000
set_option maxHeartbeats 4000000
/-! Rules of our own over the layer: data with a Lean type on the abstract heap; ==, in, count, min, sorted of such; a tuple that keeps its object; enumerate of a tuple. -/
namespace Kw
open PySem PySem.Spec PyProof.Rows L2
open Evl (Ex ex_t ex_l fresh_back)

/-! ### data with a Lean type on the abstract heap -/
abbrev DT {α : Type} [DecidableEq α] [PySem.W.Datum α] (K : PySem.W.Frag) (H : Hp) (v : V) (x : α) : Prop := Dp K H v (PySem.W.Datum.toD x)
abbrev DTs {α : Type} [DecidableEq α] [PySem.W.Datum α] (K : PySem.W.Frag) (H : Hp) (vs : List V) (xs : List α) : Prop := DpAll K H vs (xs.map PySem.W.Datum.toD)
abbrev TupL (α : Type) := PySem.W.Tup α

section
variable {α β : Type} [DecidableEq α] [PySem.W.Datum α] [DecidableEq β] [PySem.W.Datum β] {K : PySem.W.Frag} {H H' : Hp} {v : V} {vs : List V} {a : Addr}

theorem dt_int (i : Int) : DT K H (.int i) i := Dp.int i
theorem dt_bool (b : Bool) : DT K H (.bl b) b := Dp.bl b
theorem dt_int_inv {i : Int} (h : DT K H v i) : v = .int i := by
  have h' : Dp K H v (.int i) := h
  cases h'
  rfl
theorem dt_bool_inv {b : Bool} (h : DT K H v b) : v = .bl b := by
  have h' : Dp K H v (.bool b) := h
  cases h'
  rfl
theorem dt_pair {p : α × β} {x y : V} (h : SqT K H a [x, y]) (hx : DT K H x p.1) (hy : DT K H y p.2) : DT K H (.ref a) p := Dp.tup h (DpAll.cons hx (DpAll.cons hy DpAll.nil))
theorem dt_pair_inv {p : α × β} (h : DT K H v p) : ∃ a x y, v = .ref a ∧ SqT K H a [x, y] ∧ DT K H x p.1 ∧ DT K H y p.2 := by
  have h' : Dp K H v (.tuple [PySem.W.Datum.toD p.1, PySem.W.Datum.toD p.2]) := h
  cases h' with
  | tup hs ha =>
    cases ha with
    | cons h1 ha =>
      cases ha with
      | cons h2 ha =>
        cases ha
        exact ⟨_, _, _, rfl, hs, h1, h2⟩
theorem dt_tup {l : List α} (h : SqT K H a vs) (hs : DTs K H vs l) : DT K H (.ref a) (PySem.W.Tup.mk l) := Dp.tup h hs
theorem dt_tup_inv {t : TupL α} (h : DT K H v t) : ∃ a vs, v = .ref a ∧ SqT K H a vs ∧ DTs K H vs t.items := by
  have h' : Dp K H v (.tuple (t.items.map PySem.W.Datum.toD)) := h
  cases h' with
  | tup hs ha => exact ⟨_, _, rfl, hs, ha⟩
theorem dts_nil : DTs K H [] ([] : List α) := DpAll.nil
theorem dts_cons {x : α} {l : List α} (h : DT K H v x) (hs : DTs K H vs l) : DTs K H (v :: vs) (x :: l) := DpAll.cons h hs
theorem dts_inv {x : α} {l : List α} (h : DTs K H (v :: vs) (x :: l)) : DT K H v x ∧ DTs K H vs l := by
  have h' : DpAll K H (v :: vs) (PySem.W.Datum.toD x :: l.map PySem.W.Datum.toD) := h
  cases h' with
  | cons h1 h2 => exact ⟨h1, h2⟩
theorem dts_len : ∀ {vs : List V} {l : List α}, DTs K H vs l → vs.length = l.length
  | [], [], _ => rfl
  | [], x :: l, h => by
    have h' : DpAll K H [] (PySem.W.Datum.toD x :: l.map PySem.W.Datum.toD) := h
    cases h'
  | v :: vs, [], h => by
    have h' : DpAll K H (v :: vs) [] := h
    cases h'
  | v :: vs, x :: l, h => by rw [List.length_cons, List.length_cons, dts_len (dts_inv h).2]
theorem dts_get : ∀ {vs : List V} {l : List α}, DTs K H vs l → ∀ {i : Nat} {v : V}, vs[i]? = some v → ∃ x, l[i]? = some x ∧ DT K H v x
  | [], _, _, i, v, e => by simp at e
  | _ :: _, [], h, _, _, _ => absurd (dts_len h) (by simp)
  | u :: vs, x :: l, h, 0, v, e => by
    have e' : u = v := by simpa using e
    subst e'
    exact ⟨x, rfl, (dts_inv h).1⟩
  | u :: vs, x :: l, h, i + 1, v, e => by
    obtain ⟨y, h1, h2⟩ := dts_get (dts_inv h).2 (i := i) (v := v) (by simpa using e)
    exact ⟨y, by simpa using h1, h2⟩
theorem dts_get' : ∀ {vs : List V} {l : List α}, DTs K H vs l → ∀ {i : Nat} {x : α}, l[i]? = some x → ∃ v, vs[i]? = some v ∧ DT K H v x
  | _, [], _, i, x, e => by simp at e
  | [], _ :: _, h, _, _, _ => absurd (dts_len h) (by simp)
  | u :: vs, y :: l, h, 0, x, e => by
    have e' : y = x := by simpa using e
    subst e'
    exact ⟨u, rfl, (dts_inv h).1⟩
  | u :: vs, y :: l, h, i + 1, x, e => by
    obtain ⟨v, h1, h2⟩ := dts_get' (dts_inv h).2 (i := i) (x := x) (by simpa using e)
    exact ⟨v, by simpa using h1, h2⟩
theorem dts_app : ∀ {vs : List V} {l : List α} {ws : List V} {m : List α}, DTs K H vs l → DTs K H ws m → DTs K H (vs ++ ws) (l ++ m)
  | [], [], _, _, _, h => h
  | [], _ :: _, _, _, h, _ => absurd (dts_len h) (by simp)
  | _ :: _, [], _, _, h, _ => absurd (dts_len h) (by simp)
  | v :: vs, x :: l, _, _, h, h2 => dts_cons (dts_inv h).1 (dts_app (dts_inv h).2 h2)
theorem dts_snoc {x : α} {l : List α} (h : DTs K H vs l) (hx : DT K H v x) : DTs K H (vs ++ [v]) (l ++ [x]) := dts_app h (dts_cons hx dts_nil)
theorem dts_ints : ∀ (l : List Int), DTs K H (l.map V.int) l
  | [] => dts_nil
  | i :: l => dts_cons (dt_int i) (dts_ints l)
theorem dts_ints_inv : ∀ {vs : List V} {l : List Int}, DTs K H vs l → vs = l.map V.int
  | [], [], _ => rfl
  | [], _ :: _, h => absurd (dts_len h) (by simp)
  | _ :: _, [], h => absurd (dts_len h) (by simp)
  | v :: vs, x :: l, h => by
    rw [List.map_cons, dt_int_inv (dts_inv h).1, ← dts_ints_inv (dts_inv h).2]
end

/-- tuples alone: such data stay where the tuples stay -/
class Kp (α : Type) [DecidableEq α] [PySem.W.Datum α] : Prop where
  keep : ∀ {K : PySem.W.Frag} {H H' : Hp} {v : V} {x : α}, (∀ a xs, SqT K H a xs → SqT K H' a xs) → DT K H v x → DT K H' v x
section
variable {α β : Type} [DecidableEq α] [PySem.W.Datum α] [Kp α] [DecidableEq β] [PySem.W.Datum β] [Kp β] {K : PySem.W.Frag} {H H' : Hp} {v : V} {vs : List V} {a : Addr}
theorem dts_keep (k : ∀ a xs, SqT K H a xs → SqT K H' a xs) : ∀ {vs : List V} {l : List α}, DTs K H vs l → DTs K H' vs l
  | [], [], _ => dts_nil
  | [], _ :: _, h => absurd (dts_len h) (by simp)
  | _ :: _, [], h => absurd (dts_len h) (by simp)
  | _ :: _, _ :: _, h => dts_cons (Kp.keep k (dts_inv h).1) (dts_keep k (dts_inv h).2)
instance : Kp Int := ⟨fun _ h => by
  rw [dt_int_inv h]
  exact dt_int _⟩
instance : Kp Bool := ⟨fun _ h => by
  rw [dt_bool_inv h]
  exact dt_bool _⟩
instance : Kp (α × β) := ⟨fun k h => by
  obtain ⟨a, x, y, e, hs, h1, h2⟩ := dt_pair_inv h
  subst e
  exact dt_pair (k _ _ hs) (Kp.keep k h1) (Kp.keep k h2)⟩
instance : Kp (PySem.W.Tup α) := ⟨fun k h => by
  obtain ⟨a, vs, e, hs, h1⟩ := dt_tup_inv h
  subst e
  exact dt_tup (k _ _ hs) (dts_keep k h1)⟩
theorem dt_ex {x : α} (e : Ex H H') (h : DT K H v x) : DT K H' v x := Kp.keep (fun _ _ q => ex_t e q) h
theorem dts_ex {l : List α} (e : Ex H H') (h : DTs K H vs l) : DTs K H' vs l := dts_keep (fun _ _ q => ex_t e q) h
end

section
variable {α : Type} [DecidableEq α] [PySem.W.Datum α] {X : Cx} {pins : List (Addr × Obj)} {σ : L2.St} {H : Hp} {s : Shared} {v : V} {u : Value} {vs : List V} {us : List Value}
theorem dt_holds {x : α} (I : Inv X pins σ H s) (h : DT X.K H v x) (r : RelV v u) : PySem.W.Holds s.heap u x := Dp.reads I _ v u h r
theorem dts_holds {l : List α} (I : Inv X pins σ H s) (h : DTs X.K H vs l) (r : Vals vs us) : PySem.W.HoldAll s.heap us l := Dp.readsAll I _ vs us h r
end

/-! ### ==, !=, in of such data; count, min -/
section
variable {X : Cx} (α : Type) [DecidableEq α] [PySem.W.Datum α]
def rEqT (K : PySem.W.Frag) : R2 := fun x y H Q => ∃ p q : α, DT K H x p ∧ DT K H y q ∧ Q (.bl (decide (p = q))) H
theorem op_eqT {α : Type} [DecidableEq α] [PySem.W.Datum α] (hu : X.A.units + 64 < cLine) (hd : PySem.W.Datum.depth α ≤ 60) : OpR X (compareOp .Eq) (rEqT α X.K) := by
  intro pins s σ H x y v u Q I rx ry h
  obtain ⟨p, q, hp, hq, hQ⟩ := h
  exact PySem.W.eq_datum (dt_holds I hp rx) (dt_holds I hq ry) (by omega) ⟨.bl _, H, I, rfl, hQ⟩
/-- x in l, l a list of data -/
def rInT (K : PySem.W.Frag) : R2 := fun x y H Q => ∃ (p : α) (l : List α) (a : Addr) (vs : List V), y = .ref a ∧ SqL K H a vs ∧ DTs K H vs l ∧ DT K H x p ∧ Q (.bl (decide (p ∈ l))) H
theorem op_inT {α : Type} [DecidableEq α] [PySem.W.Datum α] (hu : X.A.units + 64 < cLine) (hd : PySem.W.Datum.depth α ≤ 60) : OpR X (compareOp .In) (rInT α X.K) := by
  intro pins s σ H x y v u Q I rx ry h
  obtain ⟨p, l, a, vs, rfl, hs, hl, hp, hQ⟩ := h
  cases ry
  obtain ⟨its, rv, pl, hz⟩ := I.list hs
  exact PySem.W.in_list_datum pl.isList (dts_holds I hl rv) (dt_holds I hp rx) (by omega) ⟨.bl _, H, I, rfl, hQ⟩
/-- l.count(x) -/
def rCountT (K : PySem.W.Frag) : V → List V → Hp → VK → Prop := fun x xs H Q => ∃ (a : Addr) (y : V) (p : α) (l : List α) (vs : List V), x = .ref a ∧ xs = [y] ∧ SqL K H a vs ∧ DTs K H vs l ∧ DT K H y p ∧
  Q (.int ((l.countP fun z => decide (z = p) : Nat) : Int)) H
theorem mt_countT {α : Type} [DecidableEq α] [PySem.W.Datum α] (hu : X.A.units + 64 < cLine) (hd : PySem.W.Datum.depth α ≤ 60) : MtR X "list.count" (rCountT α X.K) := by
  intro pins s σ H x xs v us Q I rx rxs h
  obtain ⟨a, y, p, l, vs, rfl, rfl, hs, hl, hp, hQ⟩ := h
  cases rx
  obtain ⟨uy, rfl, ry⟩ := vals1 rxs
  obtain ⟨its, rv, pl, hz⟩ := I.list hs
  exact PySem.W.count_list_datum pl.isList (dts_holds I hl rv) (dt_holds I hp ry) (by omega) ⟨.int _, H, I.tok _, ⟨_, rfl⟩, hQ⟩
end
section
variable {X : Cx} (α : Type) [DecidableEq α] [PySem.W.DatumOrd α]
/-- min(l) of a list of data, not empty: one of the items that is the least -/
def rMinT (K : PySem.W.Frag) : List V → Hp → VK → Prop := fun xs H Q => ∃ (a : Addr) (vs : List V) (x : α) (l : List α), xs = [.ref a] ∧ SqL K H a vs ∧ DTs K H vs (x :: l) ∧
  ∀ v : V, DT K H v (PySem.W.minOf x l) → Q v H
theorem min_uniq {α : Type} [DecidableEq α] [PySem.W.DatumOrd α] {h : Heap} {u : Value} {x y : α} (a : PySem.W.Holds h u x) (b : PySem.W.Holds h u y) : x = y := by
  obtain ⟨as, ra⟩ := a
  obtain ⟨bs, rb⟩ := b
  have e := PySem.W.alike_unique _ _ u as bs (PySem.W.DatumOrd.alike x y) ra rb
  have q := PySem.W.Datum.eqv x y
  rw [← e, PySem.W.Datum.eqv x x, decide_eq_true rfl] at q
  exact of_decide_eq_true q.symm
theorem cr_minT {α : Type} [DecidableEq α] [PySem.W.DatumOrd α] (hc : X.calm = true) (hu : X.A.units + 64 < cLine) (hd : PySem.W.Datum.depth α ≤ 60) : CallR X (.builtin "min") (rMinT α X.K) := by
  intro pins s σ H xs us Q I r h
  obtain ⟨a, vs, x, l, rfl, hs, hl, hQ⟩ := h
  obtain ⟨u, rfl, ru⟩ := vals1 r
  cases ru
  obtain ⟨its, rv, pl, hz⟩ := I.list hs
  have hA := dts_holds I hl rv
  refine PySem.W.min_list_datum (I.ok.hd hc) pl.isList hA (by omega) fun i v h' tk hi hv hk => ?_
  have hi' : its[i]? = some v := by simpa using hi
  obtain ⟨y, hy, hy2⟩ := hA.at hi'
  have e := min_uniq (hy2.keeps hk) hv
  subst e
  obtain ⟨w', hw, hw2⟩ := dts_get' hl hy
  obtain ⟨v', hv', rv'⟩ := rv.get hw
  rw [hi'] at hv'
  cases hv'
  exact ⟨w', H, I.kept (t' := tk) hk, rv', hQ w' hw2⟩
end
end Kw

/-! ## KwB -/
set_option Elab.async false
set_option linter.all false
set_option maxRecDepth 100000
set_option maxHeartbeats 4000000
namespace Kw
open PySem PySem.Spec PyProof.Rows L2
open Evl (Ex ex_t ex_l fresh_back)

/-! ### a tuple that keeps its object: its method index can be called -/
def PT (H : Hp) (p : Addr) (xs : List V) : Prop := ∃ o : Obj, H p = some (.frz o (.tup xs)) ∧ o.dict = none
theorem PT.sq {K : PySem.W.Frag} {H : Hp} {p : Addr} {xs : List V} (h : PT H p xs) : SqT K H p xs := by
  obtain ⟨o, e, _⟩ := h
  exact Or.inl (Or.inr ⟨o, e⟩)
theorem PT.ex {H H' : Hp} {p : Addr} {xs : List V} (e : Ex H H') (h : PT H p xs) : PT H' p xs := by
  obtain ⟨o, q, d⟩ := h
  exact ⟨o, e _ _ q, d⟩
section
variable {X : Cx}
/-- a written tuple -/
def tTupF (t : TA) : TE := fun σ H Q => t σ H fun xs H1 => xs.length ≤ 1000 ∧ ∀ p H2, Ex H1 H2 → PT H2 p xs → Q (.ref p) H2
theorem pe_tupF {es : List Expr} {x1 : Nat} {pos : Pos} {t : TA} (h : PA X es t) : PE X (.Tuple es x1 pos) (tTupF t) := by
  constructor
  intro pins s σ H Q I hq
  refine wpAny_Tuple_spliced (thn (h.run pos pins s σ H _ I hq) fun us s1 h1 => ?_)
  obtain ⟨xs, H1, I1, r, z, q⟩ := h1
  have zl : xs.length ≤ sizeLine := by
    rw [sizeLine_eq]
    omega
  refine ⟨by rw [← r.length]; exact zl, ?_⟩
  have hf : H1 s1.heap.objs.size = none := I1.fresh
  have hg : (s1.heap.push { cls := .type "tuple", data := .seq us.toArray }).get? s1.heap.objs.size = some { cls := .type "tuple", data := .seq us.toArray } := Heap.get?_push_size _ rfl
  refine ⟨.ref s1.heap.objs.size, upd H1 s1.heap.objs.size (.frz { cls := .type "tuple", data := .seq us.toArray } (.tup xs)), I1.laid (t' := s1.toks) (fun b u e => Heap.get?_push_of_some _ e) (Nat.le_refl _) ?_, rfl, q _ _ (Ex.new hf) ⟨_, upd_same, rfl⟩⟩
  exact ⟨hg, zl, us, r, ⟨_, hg, rfl, _, rfl⟩⟩
/-- t + u, u not empty -/
def rCatF : R2 := fun x y H Q => ∃ a b xs ys, x = .ref a ∧ y = .ref b ∧ PT H a xs ∧ PT H b ys ∧ ys ≠ [] ∧ xs.length + ys.length ≤ 1000 ∧ ∀ p H2, Ex H H2 → PT H2 p (xs ++ ys) → Q (.ref p) H2
theorem op_catF : OpR X (binaryOp .Add) rCatF := by
  intro pins s σ H x y v u Q I rx ry h
  obtain ⟨a, b, xs, ys, rfl, rfl, ha, hb, hy, hz, q⟩ := h
  cases rx
  cases ry
  obtain ⟨its, r1, p1, _⟩ := I.tuple (X := X) ha.sq
  obtain ⟨its2, r2, p2, _⟩ := I.tuple (X := X) hb.sq
  by_cases hx : xs = []
  · subst hx
    cases r1
    exact cat_tup0 p1 p2 ⟨.ref b, H, I, rfl, q b H (Ex.refl H) hb⟩
  · have n1 : its ≠ [] := fun e => hx (by
      have l := r1.length
      rw [e] at l
      exact List.eq_nil_of_length_eq_zero l)
    have n2 : its2 ≠ [] := fun e => hy (by
      have l := r2.length
      rw [e] at l
      exact List.eq_nil_of_length_eq_zero l)
    have r3 : Vals (xs ++ ys) (its ++ its2) := r1.append r2
    have l3 := r3.length
    have zl : (xs ++ ys).length ≤ sizeLine := by
      rw [sizeLine_eq, List.length_append]
      omega
    refine HT.cat_tup p1 p2 n1 (fun e => absurd e n2) (fun _ => ?_) (by rw [← List.length_append, ← l3]; exact zl)
    have hf : H s.heap.objs.size = none := I.fresh
    have hg : (s.heap.push { cls := .type "tuple", data := .seq (its ++ its2).toArray }).get? s.heap.objs.size = some { cls := .type "tuple", data := .seq (its ++ its2).toArray } := Heap.get?_push_size _ rfl
    refine ⟨.ref s.heap.objs.size, upd H s.heap.objs.size (.frz { cls := .type "tuple", data := .seq (its ++ its2).toArray } (.tup (xs ++ ys))), I.laid (t' := s.toks) (fun b u e => Heap.get?_push_of_some _ e) (Nat.le_refl _) ?_, rfl, q _ _ (Ex.new hf) ⟨_, upd_same, rfl⟩⟩
    exact ⟨hg, zl, its ++ its2, r3, ⟨_, hg, rfl, _, rfl⟩⟩
/-- t.index(k), t a tuple of ints in which k is -/
def tTIdx (to te : TE) : TE := fun σ H Q => to σ H fun x H1 => (∃ p xs, x = .ref p ∧ PT H1 p xs) ∧ te σ H1 fun y H2 => ∃ (p : Addr) (ns : List Int) (k : Int), x = .ref p ∧ y = .int k ∧ PT H2 p (ns.map V.int) ∧ k ∈ ns ∧ Q (.int ((ns.idxOf k : Nat) : Int)) H2
theorem pe_tidx {o e : Expr} {to te : TE} {apos cpos : Pos} (hu : X.A.units + 64 < cLine) (ho : PE X o to) (he : PE X e te) (hbase : attributeBase o "index" X.env (eval o X.env) = eval o X.env := by rfl)
    (hline : (apos.endLine == cpos.line) = true := by rfl) (htr : backTo cpos (starEach [e] X.env) = [(false, eval e X.env)] := by rfl) :
    PE X (.Call (.Attribute o "index" apos) [e] [] cpos) (tTIdx to te) := by
  constructor
  intro pins s σ H Q I h
  refine wpAny_Call_method1_late hbase hline htr (thn (ho.run pins s σ H _ I h) fun v s1 h1 => ?_)
  obtain ⟨x, H1, I1, r1, ⟨p, xs, ex, hp⟩, q1⟩ := h1
  subst ex
  cases r1
  obtain ⟨ob, hpo, hdn⟩ := hp
  obtain ⟨hg, _, its, _, o2, hg2, hc2, _⟩ := I1.hok _ _ hpo
  have eo : o2 = ob := Option.some.inj (hg2.symm.trans hg)
  refine ⟨"tuple", "tuple.index", PySem.F.plainAttrs_tuple, PySem.F.slot_tuple_index, PySem.F.type_tuple_index, ⟨ob, hg, by rw [← eo]; exact hc2⟩, fun a e2 => ?_, ?_⟩
  · cases e2
    exact ⟨ob, hg, hdn⟩
  · refine Calls.callWith_builtin rfl (Calls.evalArgs_plain ?_)
    refine Calls.spliced_cons (thn (he.run pins s1 σ H1 _ I1 q1) fun u s2 h2 => Calls.spliced_nil ?_)
    obtain ⟨y, H2, I2, r2, p', ns, k, e1, e2, hp2, hk, q⟩ := h2
    cases e1
    subst e2
    obtain ⟨its2, rv, pl, _⟩ := I2.tuple (X := X) hp2.sq
    refine PySem.W.index_tuple_datum (α := Int) (xs := ns) (x := k) pl (dts_holds I2 (dts_ints ns) rv) (dt_holds I2 (dt_int k) r2) (by show X.A.units + 1 + 0 < cLine; omega) hk ⟨.int _, H2, I2.tok _, ⟨_, rfl⟩, q⟩
end
end Kw

/-! ## KwC -/
set_option Elab.async false
set_option linter.all false
set_option maxRecDepth 100000
set_option maxHeartbeats 4000000
namespace Kw
open PySem PySem.Spec PyProof.Rows L2
open Evl (Ex ex_t ex_l fresh_back)

/-! ### sorted(t), t a tuple, at the library's level -/
section
variable {prog : Program} {w : World} {A : Around} {E : Value → Shared → Prop} {s : Shared}
theorem gather_tup {t : Addr} {vs : List Value} {Q : List Value → Shared → Prop} (ht : s.heap.IsTuple t vs.toArray) (hsz : vs.length ≤ sizeLine)
    (h : Q vs { s with heap := (s.heap.push (seqObj "list" #[] 0)).update s.heap.objs.size (Obj.mapSeq (· ++ vs.toArray)) }) : wpAny (model prog w) A (collect (.ref t)) Q E s := by
  obtain ⟨o, ho, hc, n, hd⟩ := id ht
  have hL : (s.heap.push (seqObj "list" #[] 0)).get? s.heap.objs.size = some (seqObj "list" #[] 0) := Heap.get?_push_size _ rfl
  have hT : (s.heap.push (seqObj "list" #[] 0)).get? t = some o := Heap.get?_push_of_some _ ho
  have cond : (Builtin.List.listSameRef (.ref s.heap.objs.size) (.ref t) || (Value.type "tuple" == Value.type "list") || (Value.type "tuple" == Value.type "tuple")) = true := by
    have z : (Value.type "tuple" == Value.type "tuple") = true := by rfl
    rw [z, Bool.or_true]
  unfold collect
  refine wpAny_bind (wpAny_runValue (codeAny_builtin entry_proto_collect' ?_))
  show wpAny _ _ (newList [] >>= fun l => again (.builtin "list.__iadd__" ⟨[l, .ref t], []⟩)) _ _ s
  refine wpAny_bind (wpAny_newList (wpAny_pure ⟨Code.quiet_builtin _ (by decide +kernel), codeAny_builtin entry_list_iadd' ?_⟩))
  show wpAny _ _ (Builtin.List.listExtendWith (.ref s.heap.objs.size) (.ref t) (.ref s.heap.objs.size)) _ _ { s with heap := s.heap.push (seqObj "list" #[] 0) }
  unfold Builtin.List.listExtendWith
  refine wpAny_bind (wpAny_typeOf (T := "tuple") ⟨o, hT, hc⟩ ?_)
  rw [if_pos cond]
  refine wpAny_bind (listItems_at hT hd (wpAny_bind (listItems_at (xs := #[]) (n := 0) hL rfl ?_)))
  rw [if_neg (by simp)]
  have hz2 : (#[] ++ vs.toArray).size ≤ sizeLine + 1 := by
    simp only [Array.size_append, List.size_toArray, List.length_nil]
    omega
  refine wpAny_bind (listUpdate_at (xs := #[]) (n := 0) hL rfl (wpAny_pure ?_) (Nat.zero_le _) hz2)
  show wpAny (model prog w) A (load s.heap.objs.size >>= fun o => match o.data with
      | .seq xs _ => pure xs.toList
      | _ => unsupported "internal:collect") Q E { s with heap := (s.heap.push (seqObj "list" #[] 0)).update s.heap.objs.size (Obj.mapSeq (· ++ vs.toArray)) }
  refine wpAny_bind (wpAny_load (get?_update_seq hL _) ?_)
  show wpAny _ _ (pure ((#[] : Array Value) ++ vs.toArray).toList) Q E _
  have e : ((#[] : Array Value) ++ vs.toArray).toList = vs := by simp
  rw [e]
  exact wpAny_pure h
theorem sorted_tup_of {t : Addr} {vs : List Value} {Q : Value → Shared → Prop} (ht : s.heap.IsTuple t vs.toArray) (hL : vs.length ≤ sizeLine)
    (body : ∀ E' : Value → Shared → Prop, wpAny (model prog w) A.in1.in1 (Builtin.«list.sort» ⟨[.ref (s.heap.objs.size + 1)], []⟩) (fun f s' => f = .done (.ret .none) ∧ Q (.ref (s.heap.objs.size + 1)) s') E' { s with heap := PySem.W.copyHeap s.heap vs }) :
    wpAny (model prog w) A (call (.builtin "sorted") [.ref t]) Q E s := by
  have hsz : ((s.heap.push (seqObj "list" #[] 0)).update s.heap.objs.size (Obj.mapSeq (· ++ vs.toArray))).objs.size = s.heap.objs.size + 1 := by rw [Heap.size_update, size_push']
  refine Calls.call_function_entry kind_sorted plain_sorted entry_sorted (args_sorted1 _) ?_
  unfold Builtin.«sorted»
  refine wpAny_bind (m := checkCount "sorted" 1 1 _) (wpAny_pure (wpAny_bind (gather_tup ht hL (wpAny_bind (wpAny_newList ?_ hL)))))
  show wpAny _ _ _ _ _ { s with heap := PySem.W.copyHeap s.heap vs }
  rw [hsz]
  refine wpAny_bind (wpAny_holding (wpAny_call_entry slot_list_sort ⟨_, PySem.W.copyHeap_at s.heap vs, rfl⟩ entry_list_sort ?_ (args_list_sort _)))
  refine wpAny_mono (body _) (fun f s' hf => ?_) fun _ _ e => e
  obtain ⟨ef, hq⟩ := hf
  subst ef
  exact ⟨_, rfl, wpAny_pure ⟨_, rfl, hq⟩⟩
variable {β : Type} {vs : List Value} {bs : List β} {enc : β → PyData} {R : Value → β → Prop}
theorem sorted_tup_data {t : Addr} {Q : Value → Shared → Prop} (ht : s.heap.IsTuple t vs.toArray) (e : PySem.W.EachIs R vs bs) (er : PySem.W.EachIs (fun v b => ∃ as, Reads s.heap v (enc b) as) vs bs) (hal : PySem.W.AllAlike (bs.map enc)) (hk : PySem.W.Sortable (bs.map enc))
    (hL : bs.length ≤ sizeLine) (hu : ∀ b, b ∈ bs → A.units + 2 + (enc b).depth < cLine)
    (h : ∀ out, out.length = bs.length → PySem.W.EachIs R out (bs.mergeSort (PySem.W.dataLe false enc)) → Q (.ref (s.heap.objs.size + 1)) { s with heap := sortedAll s.heap vs (List.toArray out) }) :
    wpAny (model prog w) A (call (.builtin "sorted") [.ref t]) Q E s := by
  have er' : PySem.W.EachIs (fun v b => ∃ as, Reads (PySem.W.sortingHeap (PySem.W.copyHeap s.heap vs) (s.heap.objs.size + 1) vs) v (enc b) as) vs bs := er.mono fun _ _ q => by
    obtain ⟨as, r⟩ := q
    exact ⟨as, PyProof.Rows.Reads.keeps (fun _ _ => PySem.W.sorting_copy_old) r⟩
  have hv : vs.length ≤ sizeLine := by
    rw [e.length]
    exact hL
  have S := PySem.W.SortsAt.data (prog := prog) (w := w) (A := A.in1.in1) (s := { s with heap := PySem.W.sortingHeap (PySem.W.copyHeap s.heap vs) (s.heap.objs.size + 1) vs }) (PySem.W.each_map (R := fun v d => ∃ as, Reads (PySem.W.sortingHeap (PySem.W.copyHeap s.heap vs) (s.heap.objs.size + 1) vs) v d as) enc er') hal hk (PySem.W.bound_map hu)
  refine sorted_tup_of ht hv fun _ => PySem.W.list_sort_vals (s := { s with heap := PySem.W.copyHeap s.heap vs }) (PySem.W.copyHeap_at s.heap vs) S hv ⟨rfl, ?_⟩
  exact h _ (by rw [PySem.W.sortVals_length false rfl]; exact e.length) (PySem.W.sortVals_data false e er' hal)
end

/-! ### sorted of data, as rules of the layer -/
/-- what sorted gives -/
def srt {α : Type} [DecidableEq α] [PySem.W.Datum α] (l : List α) : List α := l.mergeSort (PySem.W.dataLe false PySem.W.Datum.toD)
section
variable {α : Type} [DecidableEq α] [PySem.W.Datum α] {K : PySem.W.Frag} {H : Hp}
theorem each_of : ∀ {xs : List V} {us : List Value} {l : List α}, Vals xs us → DTs K H xs l → PySem.W.EachIs (fun u b => ∃ v, RelV v u ∧ DT K H v b) us l
  | [], [], [], _, _ => .nil
  | [], _ :: _, _, r, _ => by cases r
  | _ :: _, [], _, r, _ => by cases r
  | [], [], _ :: _, _, h => absurd (dts_len h) (by simp)
  | _ :: _, _ :: _, [], _, h => absurd (dts_len h) (by simp)
  | x :: xs, u :: us, b :: l, r, h => by
    cases r with
    | cons r1 r2 => exact .cons ⟨x, r1, (dts_inv h).1⟩ (each_of r2 (dts_inv h).2)
theorem of_each : ∀ {us : List Value} {l : List α}, PySem.W.EachIs (fun u b => ∃ v, RelV v u ∧ DT K H v b) us l → ∃ ys, Vals ys us ∧ DTs K H ys l
  | _, _, .nil => ⟨[], .nil, dts_nil⟩
  | _, _, .cons h t => by
    obtain ⟨v, r, d⟩ := h
    obtain ⟨ys, r2, d2⟩ := of_each t
    exact ⟨v :: ys, .cons r r2, dts_cons d d2⟩
end
/-- data that can be sorted -/
class Srt (α : Type) [DecidableEq α] [PySem.W.Datum α] : Prop where
  al : ∀ b b' : α, PySem.W.alike (PySem.W.Datum.toD b) (PySem.W.Datum.toD b') = true
  sb : ∀ l : List α, PySem.W.Sortable (l.map PySem.W.Datum.toD)
  dp : PySem.W.Datum.depth α ≤ 50
instance : Srt Int := ⟨fun a b => PySem.W.DatumOrd.alike a b, fun _ => PySem.W.Sortable.others fun b => ⟨fun e => (nomatch (show PyData.int b = PyData.none from e)), fun xs e => (nomatch (show PyData.int b = PyData.tuple xs from e))⟩, by decide⟩
instance : Srt (Int × Int) := ⟨fun a b => PySem.W.DatumOrd.alike a b, fun _ => PySem.W.Sortable.tuples fun b => ⟨_, _, rfl⟩, by decide⟩
section
variable {X : Cx} (α : Type) [DecidableEq α] [PySem.W.Datum α]
def rSortD (K : PySem.W.Frag) : List V → Hp → VK → Prop := fun vs H Q => ∃ (a : Addr) (xs : List V) (l : List α), vs = [.ref a] ∧ (SqL K H a xs ∨ SqT K H a xs) ∧ DTs K H xs l ∧ l.length ≤ 1000 ∧
  ∀ p ys, H p = none → DTs K H ys (srt l) → Q (.ref p) (upd H p (.lst ys))
theorem cr_sortD {α : Type} [DecidableEq α] [PySem.W.Datum α] [Srt α] (hu : X.A.units + 64 < cLine) : CallR X (.builtin "sorted") (rSortD α X.K) := by
  intro pins s σ H vs us Q I r h
  obtain ⟨a, xs, l, rfl, hs, hl, hn, q⟩ := h
  obtain ⟨u, rfl, ru⟩ := vals1 r
  cases ru
  have hn' : l.length ≤ sizeLine := by
    rw [sizeLine_eq]
    omega
  have hb : ∀ b, b ∈ l → X.A.units + 2 + (PySem.W.Datum.toD b).depth < cLine := fun b _ => by
    have h1 := PySem.W.Datum.depth_le b
    have h2 := Srt.dp (α := α)
    omega
  have hal : PySem.W.AllAlike (l.map PySem.W.Datum.toD) := PySem.W.AllAlike.of fun b b' => Srt.al b b'
  have fin : ∀ its : List Value, Vals xs its → ∀ out : List Value, out.length = l.length → PySem.W.EachIs (fun u b => ∃ v, RelV v u ∧ DT X.K H v b) out (l.mergeSort (PySem.W.dataLe false PySem.W.Datum.toD)) →
      EP X pins σ Q (.ref (s.heap.objs.size + 1)) { s with heap := sortedAll s.heap its (List.toArray out) } := fun its rv out ho he => by
    obtain ⟨ep, he'⟩ := PyProof.Rows.sortedAll_at s.heap its (List.toArray out)
    obtain ⟨ys, r2, d2⟩ := of_each he
    have hy : ys.length ≤ sizeLine := by
      rw [r2.length, ho]
      exact hn'
    exact ⟨.ref _, upd H (s.heap.objs.size + 1) (.lst ys), I.laid (t' := s.toks) (fun _ _ => PyProof.Rows.sortedAll_old) (Nat.le_succ _) ⟨hy, out, ep, r2, he'⟩, rfl, q _ _ (I.hok.fresh (Nat.le_succ _)) d2⟩
  rcases hs with hs | hs
  · obtain ⟨its, rv, pl, hz⟩ := I.list hs
    obtain ⟨as, hr⟩ := dts_holds I hl rv
    exact PySem.W.sorted_data (R := fun u b => ∃ v, RelV v u ∧ DT X.K H v b) pl.isList (each_of rv hl) (PySem.W.readsAll_each PySem.W.Datum.toD hr) hal (Srt.sb l) hn' hb (fin its rv)
  · obtain ⟨its, rv, pl, hz⟩ := I.tuple hs
    obtain ⟨as, hr⟩ := dts_holds I hl rv
    exact sorted_tup_data (R := fun u b => ∃ v, RelV v u ∧ DT X.K H v b) pl (each_of rv hl) (PySem.W.readsAll_each PySem.W.Datum.toD hr) hal (Srt.sb l) hn' hb (fin its rv)
end
end Kw

/-! ## KwD -/
set_option Elab.async false
set_option linter.all false
set_option maxRecDepth 100000
set_option maxHeartbeats 4000000
namespace Kw
open PySem PySem.Spec PyProof.Rows L2
open Evl (Ex ex_t ex_l fresh_back)

/-! ### enumerate(t), t a tuple -/
theorem meets_enum1 {v : Value} {o : Obj} {G : Heap → Prop} (B : Begins v o G) :
    Meets (Builtin.«enumerate.__new__» ⟨[.type "enumerate", v], []⟩) (fun _ R s => G s.heap ∧
      R (.ok (.ret (.ref (s.heap.push o).objs.size))) { s with heap := (s.heap.push o).push { cls := .type "enumerate", data := .fields #[.none, .bool false, .ref s.heap.objs.size, rawInt 0, .none, .none] } }) :=
  .of_wp fun prog w A R s h => by
    obtain ⟨hp, gs, dr, tk, os⟩ := s
    obtain ⟨g1, h⟩ := h
    have hsub := sub_enumerate
    have go : ∀ {A' : Around} {E : Value → Shared → Prop} {Q : Value → Shared → Prop}, Q (.ref hp.objs.size) ⟨hp.push o, gs, dr, tk, os⟩ → wpAny (model prog w) A' (pyIter v) Q E ⟨hp, gs, dr, tk, os⟩ :=
      fun q => B.iter prog w _ _ ⟨hp, gs, dr, tk, os⟩ _ g1 q
    wp_walk using go
    refine wpAny_stack_any fun st => wpAny_pure ?_
    split
    · rename_i c _ _ _ _ _
      cases (c == Value.type "enumerate") <;> (wp_walk using go; exact ⟨_, rfl, h⟩)
    · wp_walk using go
      exact ⟨_, rfl, h⟩
section
variable {prog : Program} {w : World} {A : Around} {E : Value → Shared → Prop} {s : Shared}
theorem call_enum1 {v : Value} {o : Obj} {G : Heap → Prop} {Q : Value → Shared → Prop} (B : Begins v o G) (g1 : G s.heap)
    (h : ∀ h', IsEnum h' (s.heap.objs.size + 1) s.heap.objs.size 0 .none → h'.get? s.heap.objs.size = some o → (∀ b u, s.heap.get? b = some u → h'.get? b = some u) → Q (.ref (s.heap.objs.size + 1)) { s with heap := h' }) :
    wpAny (model prog w) A (call (.type "enumerate") [v]) Q E s := by
  have hz : (s.heap.push o).objs.size = s.heap.objs.size + 1 := Heap.size_push ..
  have he : IsEnum ((s.heap.push o).push { cls := .type "enumerate", data := .fields #[.none, .bool false, .ref s.heap.objs.size, rawInt 0, .none, .none] }) (s.heap.objs.size + 1) s.heap.objs.size 0 .none := by
    have q := Heap.get?_push_size (s.heap.push o) (o := { cls := .type "enumerate", data := .fields #[.none, .bool false, .ref s.heap.objs.size, rawInt 0, .none, .none] }) rfl
    rw [hz] at q
    exact q
  refine callType_new F.called_enumerate (by decide) (F.typeCall_enumerate_1 _) (F.newCall_enumerate_1 _) (fun obj => F.args_object_init_2 obj _) F.entry_enumerate_new (meets_enum1 B) ⟨g1, ?_⟩
  show _ ∧ _
  rw [hz]
  exact ⟨⟨_, he, rfl⟩, h _ he (Heap.get?_push_of_some _ (Heap.get?_push_size _ B.free)) fun b u q => Heap.get?_push_of_some _ (Heap.get?_push_of_some _ q)⟩
end
/-- the tuple at a, each item in a new pair -/
def Itet (K : PySem.W.Frag) (a : Addr) : It :=
  ⟨fun i H => ∃ (xs : List V) (x : V), SqT K H a xs ∧ xs[i]? = some x,
   fun i H v H' => ∃ T x, v = .ref T ∧ H T = none ∧ H' = upd H T (.tup [.int (i : Nat), x]) ∧ ∀ xs, SqT K H a xs → xs[i]? = some x,
   fun i H => ∃ xs : List V, SqT K H a xs ∧ xs.length = i⟩
theorem walk_enumT {K : PySem.W.Frag} {a : Addr} {xs : List V} : Walk (Itet K a) xs.length (fun H => SqT K H a xs) (YPair (fun i => some (.int (i : Nat))) (fun i => xs[i]?)) := by
  refine ⟨fun i _ hi q => ⟨xs, xs[i], q, by simp [hi]⟩, fun _ q => ⟨xs, q, rfl⟩, fun i H v H' _ q y => ?_⟩
  obtain ⟨T, x, y1, y2, y3, y4⟩ := y
  exact ⟨T, _, x, y1, y2, y3, rfl, y4 xs q⟩
theorem enum_ne {h : Heap} {e it a : Addr} {i : Int} {old : Value} {items : Array Value} (he : IsEnum h e it i old) (ht : h.IsTuple a items) : e ≠ a := by
  intro q
  obtain ⟨o, ho, hc, _⟩ := ht
  have he' : h.get? e = some _ := he
  rw [q, ho] at he'
  have e2 := Option.some.inj he'
  rw [e2] at hc
  exact absurd hc (by intro z; injection z with z; exact absurd z (by decide))
theorem tupIter_ne {h : Heap} {it a b : Addr} {i : Nat} {items : Array Value} (hi : h.IsTupleIter it b i) (ht : h.IsTuple a items) : a ≠ it := by
  intro q
  obtain ⟨o, ho, hc, _⟩ := ht
  obtain ⟨o2, ho2, hc2, _⟩ := hi
  rw [q, ho2] at ho
  have e2 := Option.some.inj ho
  rw [e2, hc] at hc2
  exact absurd hc2 (by intro z; injection z with z; exact absurd z (by decide))
theorem turn_enumT {P : Program} {w : World} {K : PySem.W.Frag} {elts : List Expr} {kk : Nat} {tpos : Pos} (a e it : Addr) :
    Turn P w K (.Tuple elts kk tpos) (Itet K a) [e, it] e (fun i h => (∃ old, IsEnum h e it ((i : Nat) : Int) old) ∧ h.IsTupleIter it a i ∧ e ≠ it) where
  mem := List.mem_cons_self
  obj := fun i h st b hb => by
    obtain ⟨⟨old, he⟩, ⟨o, ho, hc, hd⟩, _⟩ := st
    rcases List.mem_cons.mp hb with z | z
    · rw [z]
      exact ⟨_, he, fun v q => nomatch q⟩
    · rw [List.mem_singleton.mp z]
      exact ⟨o, ho, fun v q => by rw [hd] at q; cases q⟩
  keep := fun i h h' st k => by
    obtain ⟨⟨old, he⟩, hi, hne⟩ := st
    exact ⟨⟨old, k e List.mem_cons_self _ he⟩, hi.at fun o q => k it (List.mem_cons_of_mem _ List.mem_cons_self) o q, hne⟩
  item := by
    intro X hP hw hK hc i pins s σ H E I hf st hg
    subst hP hw hK
    obtain ⟨⟨old, he⟩, hit, hne⟩ := st
    obtain ⟨xs, x, hq, hx⟩ := hg
    obtain ⟨its, rv, pl, hz⟩ := I.tuple hq
    have hel : e < s.heap.objs.size := Heap.lt_size he
    have hil : it < s.heap.objs.size := by
      obtain ⟨_, q, _⟩ := hit
      exact Heap.lt_size q
    have hlt : i < its.toArray.size := by
      rw [List.size_toArray, ← rv.length]
      exact (List.getElem?_eq_some_iff.mp hx).1
    have nai : a ≠ it := tupIter_ne hit pl
    have nea : e ≠ a := enum_ne he pl
    have nmem : e ∉ [it, a] := fun m => by
      rcases List.mem_cons.mp m with z | z
      · exact hne z
      · exact nea (List.mem_singleton.mp z)
    refine wpAny_pyNext_enum_itemD (Draws.tuple (A := X.A.in1) (I.ok.hd hc) it a nai its.toArray) he ⟨hit, pl⟩ hlt hne nmem fun u h' tk hu ho hst' hT hsz hk => ?_
    refine ⟨_, rfl, wpAny_letOwnedTupleGo_enum (s := { s with heap := h', toks := tk + 1 }) ho fun h'' he' sb => ?_⟩
    obtain ⟨x', hx', ru⟩ : ∃ x', xs[i]? = some x' ∧ RelV x' u := by
      obtain ⟨u', hu', r'⟩ := rv.get hx
      have e2 : its[i]? = some u := by simpa using hu
      rw [hu'] at e2
      cases e2
      exact ⟨x, hx, r'⟩
    rw [hx] at hx'
    cases hx'
    have hT2 : h''.get? s.heap.objs.size = some { cls := .type "tuple", data := .seq #[.int i tk, u] } := (sb.2 _ (Nat.ne_of_gt hel)).trans hT
    have new : ObjOk X.prog X.w (upd H s.heap.objs.size (.tup [.int (i : Nat), x])) h'' s.heap.objs.size (.tup [.int (i : Nat), x]) :=
      ⟨by show 2 ≤ sizeLine; decide, [.int i tk, u], .cons ⟨_, rfl⟩ (.cons ru .nil), ⟨_, hT2, rfl, _, rfl⟩⟩
    have I1 : Inv X pins σ (upd H s.heap.objs.size (.tup [.int (i : Nat), x])) { s with heap := h'', toks := tk + 1 } :=
      I.turnedNew (ch := [e, it]) (fun b ob hb q => (sb.2 b (fun z => hb (by rw [z]; exact List.mem_cons_self))).trans (hk b ob (fun z => hb (by rw [z]; exact List.mem_cons_self)) (fun z => hb (by rw [z]; exact List.mem_cons_of_mem _ List.mem_cons_self)) q)) hf (Nat.le_refl _) new
    refine ⟨.ref s.heap.objs.size, _, I1, rfl, ⟨_, x, rfl, I.fresh, rfl, fun ys hy => by rw [I.tuple_inj hy hq]; exact hx⟩, ⟨⟨u, ?_⟩, hst'.1.at fun o q => (sb.2 it (Ne.symm hne)).trans q, hne⟩, fun b hb => ?_⟩
    · have e1 : ((i + 1 : Nat) : Int) = (i : Int) + 1 := by omega
      rw [e1]
      exact he'
    · have hb' : b < s.heap.objs.size := by
        rcases List.mem_cons.mp hb with z | z
        · rw [z]; exact hel
        · rw [List.mem_singleton.mp z]; exact hil
      rw [upd_ne (Nat.ne_of_lt hb')]
      exact (hf b hb).1
  done := by
    intro X hP hw hK hc i pins s σ H E I hf st hg
    subst hP hw hK
    obtain ⟨⟨old, he⟩, hit, hne⟩ := st
    obtain ⟨xs, hq, hx⟩ := hg
    obtain ⟨its, rv, pl, hz⟩ := I.tuple hq
    obtain ⟨f0, f1, f2, f3, f4, f5⟩ := hf it (List.mem_cons_of_mem _ List.mem_cons_self)
    have en : i = its.toArray.size := by rw [List.size_toArray, ← rv.length, hx]
    have nai : a ≠ it := tupIter_ne hit pl
    refine wpAny_pyNext_enum_endD (Draws.tuple (A := X.A.in1) (I.ok.hd hc) it a nai its.toArray) he ⟨by rw [← en]; exact hit, pl⟩ fun h' eb => ⟨rfl, I.turned (t' := s.toks) (fun b o hb q => eb b o hb q) f0 f1 f3 f4 f5⟩
  self := fun A i s Q E st h => by
    obtain ⟨⟨old, he⟩, _⟩ := st
    exact wpAny_pyIter_enum he h
def iEnumT (K : PySem.W.Frag) (ta : TA) : TI := fun σ H R => ta σ H fun vs H1 => ∃ a xs, vs = [.ref a] ∧ SqT K H1 a xs ∧ R (Itet K a) H1
theorem pi_enumT {X : Cx} {e : Expr} {ta : TA} {p pos tpos : Pos} {elts : List Expr} {kk : Nat} (hg : Gl X "enumerate") (hm : X.mg "enumerate" = none) (ha : PA X [e] ta) (hs : starEach [e] X.env = [(false, eval e X.env)] := by rfl) :
    PI X (.Tuple elts kk tpos) (.Call (.Name "enumerate" p) [e] [] pos) (iEnumT X.K ta) := by
  constructor
  intro pins s σ H R I h
  refine Call_ (ld_blt I hg hm boot_enumerate (PyProof.Rows.callWith_type1 (thn (ha.run pos pins s σ H _ I h) fun us s1 h1 => ?_) hs rfl))
  obtain ⟨vs, H1, I1, r1, a, xs, ex, hq, q⟩ := h1
  subst ex
  rw [Vals.ref1 r1]
  obtain ⟨its, rv, pl, hz⟩ := I1.tuple hq
  refine call_enum1 (begins_tuple a its.toArray) pl fun h' he hit hk => wpAny_pyIter_enum he ?_
  have I2 : Inv X pins σ H1 { s1 with heap := h' } := I1.kept (t' := s1.toks) hk
  refine ⟨s1.heap.objs.size + 1, [s1.heap.objs.size + 1, s1.heap.objs.size], _, _, H1, rfl, I2, turn_enumT a (s1.heap.objs.size + 1) s1.heap.objs.size, ⟨⟨.none, he⟩, ⟨_, hit, rfl, rfl⟩, Nat.succ_ne_self _⟩, fun b hb => ?_, q⟩
  have hle : s1.heap.objs.size ≤ b := by
    rcases List.mem_cons.mp hb with z | z
    · rw [z]; exact Nat.le_add_right _ _
    · rw [List.mem_singleton.mp z]; exact Nat.le_refl _
  exact I1.fpOk hle (I1.hok.fresh hle)
end Kw

/-! ## KwM -/
set_option Elab.async false
set_option linter.all false
set_option maxRecDepth 100000
set_option maxHeartbeats 4000000
namespace Kw
open PySem PySem.Spec PyProof.Rows L2

/-! ### the mathematics: what the program's functions compute -/
abbrev Arr := Int × Int
abbrev WebD := Int × TupL Arr
abbrev FormD := WebD × TupL Int
def idx (os : List Int) (k : Int) : Int := ((os.idxOf k : Nat) : Int)
def namedM (n : Int) (as : List Arr) (bs os : List Int) : FormD := ((n, PySem.W.Tup.mk (srt (as.map fun p => (idx os p.1, idx os p.2)))), PySem.W.Tup.mk (srt (bs.map (idx os))))
/-- 0, 1, .. n - 1 -/
def rng (n : Nat) : List Int := (List.range n).map fun i : Nat => ((i : Nat) : Int)
/-- one more item for one order -/
def more (n : Nat) (one : List Int) : List (List Int) := ((rng n).filter fun x => decide (x ∉ one)).map fun x => one ++ [x]
def orders (n : Nat) : Nat → List (List Int)
  | 0 => [[]]
  | k + 1 => (orders n k).flatMap (more n)
def forms (n : Int) (as : List Arr) (bs : List Int) : List FormD := (orders n.toNat n.toNat).map (namedM n as bs)

structure WebOk (n : Int) (as : List Arr) : Prop where
  n1 : 1 ≤ n
  n4 : n ≤ 4
  arr : ∀ p ∈ as, 0 ≤ p.1 ∧ p.1 < n ∧ 0 ≤ p.2 ∧ p.2 < n ∧ p.1 ≠ p.2
  asc : as.Pairwise fun p q => p.1 < q.1 ∨ (p.1 = q.1 ∧ p.2 < q.2)
  len : as.length ≤ 64
structure BurnOk (n : Int) (bs : List Int) : Prop where
  lamp : ∀ b ∈ bs, 0 ≤ b ∧ b < n
  asc : bs.Pairwise (· < ·)
  len : bs.length ≤ 64
structure OrdOk (n : Int) (os : List Int) : Prop where
  len : os.length = n.toNat
  nd : os.Nodup
  lamp : ∀ x ∈ os, 0 ≤ x ∧ x < n
  has : ∀ k, 0 ≤ k → k < n → k ∈ os

/-! sorted -/
theorem srt_perm {α : Type} [DecidableEq α] [PySem.W.Datum α] (l : List α) : (srt l).Perm l := List.mergeSort_perm l _
theorem srt_len {α : Type} [DecidableEq α] [PySem.W.Datum α] (l : List α) : (srt l).length = l.length := (srt_perm l).length_eq
theorem srt_int (l : List Int) : srt l = l.mergeSort fun a b => decide (a ≤ b) := by
  have e : PySem.W.dataLe false (PySem.W.Datum.toD : Int → PyData) = fun a b => decide (a ≤ b) := PySem.W.dataLe_int (fun b : Int => b)
  unfold srt
  rw [e]
theorem srt_arr (l : List Arr) : srt l = l.mergeSort fun p q => decide (p.1 < q.1 ∨ (p.1 = q.1 ∧ p.2 ≤ q.2)) := by
  have e : PySem.W.dataLe false (PySem.W.Datum.toD : Arr → PyData) = fun p q => decide (p.1 < q.1 ∨ (p.1 = q.1 ∧ p.2 ≤ q.2)) := PySem.W.dataLe_ii (fun b : Arr => b.1) fun b : Arr => b.2
  unfold srt
  rw [e]
theorem srt_int_le (l : List Int) : (srt l).Pairwise (· ≤ ·) := by
  rw [srt_int]
  refine List.Pairwise.imp (fun {a b} h => of_decide_eq_true h) (List.pairwise_mergeSort (le := fun a b : Int => decide (a ≤ b)) (fun a b c h1 h2 => ?_) (fun a b => ?_) l)
  · have h1 := of_decide_eq_true h1
    have h2 := of_decide_eq_true h2
    exact decide_eq_true (by omega)
  · rcases Int.le_total a b with h | h
    · rw [decide_eq_true h, Bool.true_or]
    · rw [decide_eq_true h, Bool.or_true]
theorem srt_arr_le (l : List Arr) : (srt l).Pairwise fun p q => p.1 < q.1 ∨ (p.1 = q.1 ∧ p.2 ≤ q.2) := by
  rw [srt_arr]
  refine List.Pairwise.imp (fun {a b} h => of_decide_eq_true h) (List.pairwise_mergeSort (le := fun p q : Arr => decide (p.1 < q.1 ∨ (p.1 = q.1 ∧ p.2 ≤ q.2))) (fun a b c h1 h2 => ?_) (fun a b => ?_) l)
  · have h1 := of_decide_eq_true h1
    have h2 := of_decide_eq_true h2
    exact decide_eq_true (by omega)
  · have h : (a.1 < b.1 ∨ (a.1 = b.1 ∧ a.2 ≤ b.2)) ∨ (b.1 < a.1 ∨ (b.1 = a.1 ∧ b.2 ≤ a.2)) := by omega
    rcases h with h | h
    · rw [decide_eq_true h, Bool.true_or]
    · rw [decide_eq_true h, Bool.or_true]
/-- in order and no item twice -/
theorem pwise_and {α : Type} {R S T : α → α → Prop} (h : ∀ a b, R a b → S a b → T a b) : ∀ {l : List α}, l.Pairwise R → l.Pairwise S → l.Pairwise T := fun h1 h2 => List.Pairwise.imp (fun {a b} q => h a b q.1 q.2) (h1.and h2)
theorem srt_int_lt {l : List Int} (h : l.Nodup) : (srt l).Pairwise (· < ·) :=
  pwise_and (fun a b h1 h2 => by
    have h2 : a ≠ b := h2
    omega) (srt_int_le l) ((srt_perm l).nodup_iff.mpr h)
theorem srt_arr_lt {l : List Arr} (h : l.Nodup) : (srt l).Pairwise fun p q => p.1 < q.1 ∨ (p.1 = q.1 ∧ p.2 < q.2) :=
  pwise_and (fun a b h1 h2 => by
    have h2 : a ≠ b := h2
    have h3 : ¬ (a.1 = b.1 ∧ a.2 = b.2) := fun e => h2 (Prod.ext e.1 e.2)
    omega) (srt_arr_le l) ((srt_perm l).nodup_iff.mpr h)
theorem int_sorted_one {a b : List Int} (hp : a.Perm b) (ha : a.Pairwise (· ≤ ·)) (hb : b.Pairwise (· ≤ ·)) : a = b := PySem.W.ksm_same hp ha hb

/-! places -/
theorem idx_lt {os : List Int} {k : Int} (h : k ∈ os) : 0 ≤ idx os k ∧ idx os k < os.length := by
  have q := List.idxOf_lt_length_of_mem h
  unfold idx
  omega
theorem idx_inj {os : List Int} {a b : Int} (ha : a ∈ os) (hb : b ∈ os) (e : idx os a = idx os b) : a = b := by
  have e' : os.idxOf a = os.idxOf b := by
    unfold idx at e
    omega
  have q1 := List.getElem_idxOf (List.idxOf_lt_length_of_mem ha)
  have q2 := List.getElem_idxOf (List.idxOf_lt_length_of_mem hb)
  rw [← q1, ← q2]
  exact getElem_congr_idx e'
theorem nodup_mapOn {α β : Type} {f : α → β} : ∀ {l : List α}, (∀ a ∈ l, ∀ b ∈ l, f a = f b → a = b) → l.Nodup → (l.map f).Nodup
  | [], _, _ => List.nodup_nil
  | x :: l, h, hn => by
    obtain ⟨h1, h2⟩ := List.nodup_cons.mp hn
    rw [List.map_cons]
    refine List.nodup_cons.mpr ⟨fun m => ?_, nodup_mapOn (fun a ha b hb => h a (List.mem_cons_of_mem _ ha) b (List.mem_cons_of_mem _ hb)) h2⟩
    obtain ⟨y, hy, e⟩ := List.mem_map.mp m
    have e' := h y (List.mem_cons_of_mem _ hy) x List.mem_cons_self e
    exact h1 (e' ▸ hy)
theorem asc_nodup {as : List Arr} (h : as.Pairwise fun p q => p.1 < q.1 ∨ (p.1 = q.1 ∧ p.2 < q.2)) : as.Nodup :=
  List.Pairwise.imp (fun {a b} q e => by
    rw [e] at q
    omega) h
theorem lt_nodup {bs : List Int} (h : bs.Pairwise (· < ·)) : bs.Nodup :=
  List.Pairwise.imp (fun {a b} q e => by
    rw [e] at q
    omega) h
theorem named_web {n : Int} {as : List Arr} {bs os : List Int} (W : WebOk n as) (O : OrdOk n os) : WebOk n (namedM n as bs os).1.2.items := by
  have hm : ∀ k, 0 ≤ k → k < n → 0 ≤ idx os k ∧ idx os k < n := fun k h1 h2 => by
    have q := idx_lt (O.has k h1 h2)
    have l := O.len
    have := W.n1
    omega
  refine ⟨W.n1, W.n4, fun p hp => ?_, srt_arr_lt ?_, ?_⟩
  · have hp' : p ∈ as.map fun p => (idx os p.1, idx os p.2) := (srt_perm _).mem_iff.mp hp
    obtain ⟨q, hq, e⟩ := List.mem_map.mp hp'
    obtain ⟨a1, a2, a3, a4, a5⟩ := W.arr q hq
    have h1 := hm q.1 a1 a2
    have h2 := hm q.2 a3 a4
    rw [← e]
    refine ⟨h1.1, h1.2, h2.1, h2.2, fun z => a5 ?_⟩
    exact idx_inj (O.has _ a1 a2) (O.has _ a3 a4) z
  · refine nodup_mapOn (fun a ha b hb e => ?_) (asc_nodup W.asc)
    obtain ⟨a1, a2, a3, a4, a5⟩ := W.arr a ha
    obtain ⟨b1, b2, b3, b4, b5⟩ := W.arr b hb
    have e1 : idx os a.1 = idx os b.1 := congrArg Prod.fst e
    have e2 : idx os a.2 = idx os b.2 := congrArg Prod.snd e
    exact Prod.ext (idx_inj (O.has _ a1 a2) (O.has _ b1 b2) e1) (idx_inj (O.has _ a3 a4) (O.has _ b3 b4) e2)
  · show (srt _).length ≤ 64
    rw [srt_len, List.length_map]
    exact W.len
theorem named_burn {n : Int} {as : List Arr} {bs os : List Int} (n1 : 1 ≤ n) (B : BurnOk n bs) (O : OrdOk n os) : BurnOk n (namedM n as bs os).2.items := by
  have hm : ∀ k, 0 ≤ k → k < n → 0 ≤ idx os k ∧ idx os k < n := fun k h1 h2 => by
    have q := idx_lt (O.has k h1 h2)
    have l := O.len
    omega
  refine ⟨fun p hp => ?_, srt_int_lt ?_, ?_⟩
  · have hp' : p ∈ bs.map (idx os) := (srt_perm _).mem_iff.mp hp
    obtain ⟨q, hq, e⟩ := List.mem_map.mp hp'
    obtain ⟨a1, a2⟩ := B.lamp q hq
    rw [← e]
    exact hm q a1 a2
  · refine nodup_mapOn (fun a ha b hb e => ?_) (lt_nodup B.asc)
    obtain ⟨a1, a2⟩ := B.lamp a ha
    obtain ⟨b1, b2⟩ := B.lamp b hb
    exact idx_inj (O.has _ a1 a2) (O.has _ b1 b2) e
  · show (srt _).length ≤ 64
    rw [srt_len, List.length_map]
    exact B.len

/-! all orders -/
theorem rng_len (n : Nat) : (rng n).length = n := by unfold rng; rw [List.length_map, List.length_range]
theorem rng_mem {n : Nat} {x : Int} : x ∈ rng n ↔ 0 ≤ x ∧ x < n := by
  unfold rng
  rw [List.mem_map]
  constructor
  · rintro ⟨i, hi, e⟩
    have := List.mem_range.mp hi
    omega
  · rintro ⟨h1, h2⟩
    exact ⟨x.toNat, List.mem_range.mpr (by omega), by omega⟩
def ordB (n : Nat) (os : List Int) : Bool := decide (os.length = n) && decide os.Nodup && (os.all fun x => decide (0 ≤ x) && decide (x < n)) && ((rng n).all fun k => decide (k ∈ os))
theorem orders_all : (List.range 5).all (fun n => decide ((orders n n).length ≤ 24) && decide (orders n n ≠ []) && (orders n n).all (ordB n)) = true := by decide +kernel
theorem orders_fact {n : Int} (h1 : 1 ≤ n) (h4 : n ≤ 4) : (orders n.toNat n.toNat).length ≤ 24 ∧ orders n.toNat n.toNat ≠ [] ∧ ∀ os ∈ orders n.toNat n.toNat, OrdOk n os := by
  have q := List.all_eq_true.mp orders_all n.toNat (List.mem_range.mpr (by omega))
  rw [Bool.and_eq_true, Bool.and_eq_true] at q
  obtain ⟨⟨q1, q2⟩, q3⟩ := q
  refine ⟨of_decide_eq_true q1, of_decide_eq_true q2, fun os ho => ?_⟩
  have z := List.all_eq_true.mp q3 os ho
  unfold ordB at z
  rw [Bool.and_eq_true, Bool.and_eq_true, Bool.and_eq_true] at z
  obtain ⟨⟨⟨z1, z2⟩, z3⟩, z4⟩ := z
  refine ⟨of_decide_eq_true z1, of_decide_eq_true z2, fun x hx => ?_, fun k k0 k1 => ?_⟩
  · have y := List.all_eq_true.mp z3 x hx
    rw [Bool.and_eq_true] at y
    have y1 := of_decide_eq_true y.1
    have y2 := of_decide_eq_true y.2
    omega
  · exact of_decide_eq_true (List.all_eq_true.mp z4 k (rng_mem.mpr ⟨k0, by omega⟩))
def lenB (n k : Nat) : Bool := decide ((orders n k).length ≤ 24) && (orders n k).all fun os => decide (os.length = k)
theorem lens_all : (List.range 5).all (fun n => (List.range 5).all fun k => decide (n < k) || lenB n k) = true := by decide +kernel
theorem orders_len {n k : Nat} (h : n ≤ 4) (hk : k ≤ n) : (orders n k).length ≤ 24 ∧ ∀ os ∈ orders n k, os.length = k := by
  have q := List.all_eq_true.mp lens_all n (List.mem_range.mpr (by omega))
  have q2 := List.all_eq_true.mp q k (List.mem_range.mpr (by omega))
  rw [Bool.or_eq_true] at q2
  rcases q2 with q2 | q2
  · have := of_decide_eq_true q2
    omega
  · unfold lenB at q2
    rw [Bool.and_eq_true] at q2
    exact ⟨of_decide_eq_true q2.1, fun os ho => of_decide_eq_true (List.all_eq_true.mp q2.2 os ho)⟩
theorem more_len (n : Nat) (one : List Int) : (more n one).length ≤ n := by
  unfold more
  rw [List.length_map]
  exact Nat.le_trans (List.length_filter_le _ _) (Nat.le_of_eq (rng_len n))
/-- an order, sorted, is 0, 1, .. -/
theorem rng_sorted (n : Nat) : (rng n).Pairwise (· ≤ ·) := by
  unfold rng
  refine List.pairwise_map.mpr (List.Pairwise.imp (fun {a b} h => ?_) (List.pairwise_lt_range (n := n)))
  omega
theorem ord_sorted {n : Int} {os : List Int} (h1 : 0 ≤ n) (O : OrdOk n os) : srt os = rng n.toNat := by
  refine int_sorted_one ((srt_perm os).trans ?_) (srt_int_le os) (rng_sorted _)
  have nr : (rng n.toNat).Nodup := nodup_mapOn (fun a _ b _ e => by omega) List.nodup_range
  refine (List.perm_ext_iff_of_nodup O.nd nr).mpr fun k => ⟨fun hk => ?_, fun hk => ?_⟩
  · have := O.lamp k hk
    exact rng_mem.mpr ⟨this.1, by omega⟩
  · have := rng_mem.mp hk
    exact O.has k this.1 (by omega)

/-! names by a dict -/
def namesD (os : List Int) : List (Key × V) := (List.range os.length).map fun i : Nat => (Sum.inl (os.getD i 0), V.int ((i : Nat) : Int))
theorem mergeK_app (kvs a b : List (Key × V)) : mergeK kvs (a ++ b) = mergeK (mergeK kvs a) b := List.foldl_append
theorem mergeK_out {j : Key} : ∀ {more kvs : List (Key × V)}, j ∉ more.map (·.1) → valV (mergeK kvs more) j = valV kvs j
  | [], kvs, _ => rfl
  | p :: r, kvs, h => by
    have h1 : j ≠ p.1 := fun e => h (by rw [e]; exact List.mem_cons_self)
    have h2 : j ∉ r.map (·.1) := fun m => h (List.mem_cons_of_mem _ m)
    show valV (mergeK (putK kvs p.1 p.2) r) j = valV kvs j
    rw [mergeK_out h2, valV_put, if_neg h1]
theorem names_get {os : List Int} {a : Int} (h : a ∈ os) (hn : os.Nodup) : valV (mergeK [] (namesD os)) (Sum.inl a) = some (V.int (idx os a)) := by
  have hl := List.idxOf_lt_length_of_mem h
  have hg : os[os.idxOf a] = a := List.getElem_idxOf hl
  obtain ⟨l1, l2, e, el⟩ : ∃ l1 l2, List.range os.length = l1 ++ os.idxOf a :: l2 ∧ os.idxOf a ∉ l2 := by
    obtain ⟨s, t, e⟩ := List.append_of_mem (List.mem_range.mpr hl)
    refine ⟨s, t, e, fun m => ?_⟩
    have nd : (List.range os.length).Nodup := List.nodup_range
    rw [e] at nd
    obtain ⟨_, n2, _⟩ := List.nodup_append.mp nd
    exact (List.nodup_cons.mp n2).1 m
  unfold namesD
  rw [e, List.map_append, List.map_cons, mergeK_app]
  have ek : os.getD (os.idxOf a) 0 = a := by
    rw [List.getD_eq_getElem?_getD, List.getElem?_eq_getElem hl, hg]
    rfl
  rw [ek]
  show valV (mergeK (putK _ (Sum.inl a) (V.int ((os.idxOf a : Nat) : Int))) _) (Sum.inl a) = _
  rw [mergeK_out, valV_put, if_pos rfl]
  · rfl
  · intro m
    rw [List.map_map] at m
    obtain ⟨i, hi, e2⟩ := List.mem_map.mp m
    have e3 : os.getD i 0 = a := Sum.inl.inj e2
    have hi' : i < os.length := by
      have : i ∈ List.range os.length := by
        rw [e]
        exact List.mem_append_right _ (List.mem_cons_of_mem _ hi)
      exact List.mem_range.mp this
    rw [List.getD_eq_getElem?_getD, List.getElem?_eq_getElem hi'] at e3
    have e4 : os[i] = a := e3
    have e5 := hn.idxOf_getElem i hi'
    rw [e4] at e5
    exact el (e5 ▸ hi)
end Kw

/-! ## KwT -/
set_option Elab.async false
set_option linter.all false
set_option maxRecDepth 100000
set_option maxHeartbeats 4000000
namespace Kw
open PySem PySem.Spec PyProof.Rows L2
open Evl (Ex ex_t ex_l fresh_back)

/-! ### the text by places -/
def topS (i : Nat) : Stmt := PySem.Challenge.pw_passlights_k37_whole_names_of_lamps.main.body.getD i (.Pass ⟨0, 0, 0, 0⟩)
abbrev sIsIn : Stmt := topS 7
abbrev sIsArrow : Stmt := topS 10
abbrev sNeedWeb : Stmt := topS 11
abbrev sNeedBurning : Stmt := topS 12
abbrev sNeedBoth : Stmt := topS 13
abbrev sNamed : Stmt := topS 16
abbrev sNeedOrder : Stmt := topS 17
abbrev sRenamed : Stmt := topS 18
abbrev sAllOrders : Stmt := topS 19
abbrev sNeedFew : Stmt := topS 20
abbrev sRenamings : Stmt := topS 21
abbrev sLeastForm : Stmt := topS 22
abbrev sAreAlike : Stmt := topS 23
abbrev sTaken : Stmt := topS 25
abbrev sPick : Stmt := topS 26
abbrev sWeb : Stmt := topS 27
abbrev sBurning : Stmt := topS 28
abbrev sAlike : Stmt := topS 29
abbrev sLNamed : Stmt := topS 30
abbrev sLaw : Stmt := topS 31

theorem scIsIn : FnScope ["value", "least", "most"] ["value", "least", "most"] (defScope sIsIn) := ⟨rfl, rfl, rfl, by decide +kernel, rfl, by decide +kernel, by decide +kernel⟩
theorem scIsArrow : FnScope ["value", "many", "one"] ["value", "many"] (defScope sIsArrow) := ⟨rfl, rfl, rfl, by decide +kernel, rfl, by decide +kernel, by decide +kernel⟩
theorem scNeedWeb : FnScope ["web", "index", "one"] ["web"] (defScope sNeedWeb) := ⟨rfl, rfl, rfl, by decide +kernel, rfl, by decide +kernel, by decide +kernel⟩
theorem scNeedBurning : FnScope ["web", "burning", "index", "one"] ["web", "burning"] (defScope sNeedBurning) := ⟨rfl, rfl, rfl, by decide +kernel, rfl, by decide +kernel, by decide +kernel⟩
theorem scNeedBoth : FnScope ["web", "burning"] ["web", "burning"] (defScope sNeedBoth) := ⟨rfl, rfl, rfl, by decide +kernel, rfl, by decide +kernel, by decide +kernel⟩
theorem scNamed : FnScope ["web", "burning", "order", "arrows", "one", "other", "k"] ["web", "burning", "order"] (defScope sNamed) := ⟨rfl, rfl, rfl, by decide +kernel, rfl, by decide +kernel, by decide +kernel⟩
theorem scNeedOrder : FnScope ["web", "order", "one"] ["web", "order"] (defScope sNeedOrder) := ⟨rfl, rfl, rfl, by decide +kernel, rfl, by decide +kernel, by decide +kernel⟩
theorem scRenamed : FnScope ["web", "burning", "order"] ["web", "burning", "order"] (defScope sRenamed) := ⟨rfl, rfl, rfl, by decide +kernel, rfl, by decide +kernel, by decide +kernel⟩
theorem scAllOrders : FnScope ["many", "found", "k", "one", "x"] ["many"] (defScope sAllOrders) := ⟨rfl, rfl, rfl, by decide +kernel, rfl, by decide +kernel, by decide +kernel⟩
theorem scNeedFew : FnScope ["web"] ["web"] (defScope sNeedFew) := ⟨rfl, rfl, rfl, by decide +kernel, rfl, by decide +kernel, by decide +kernel⟩
theorem scRenamings : FnScope ["web", "burning", "order"] ["web", "burning"] (defScope sRenamings) := ⟨rfl, rfl, rfl, by decide +kernel, rfl, by decide +kernel, by decide +kernel⟩
theorem scLeastForm : FnScope ["web", "burning", "order"] ["web", "burning"] (defScope sLeastForm) := ⟨rfl, rfl, rfl, by decide +kernel, rfl, by decide +kernel, by decide +kernel⟩
theorem scAreAlike : FnScope ["web", "burning", "other_web", "other_burning", "order"] ["web", "burning", "other_web", "other_burning"] (defScope sAreAlike) := ⟨rfl, rfl, rfl, by decide +kernel, rfl, by decide +kernel, by decide +kernel⟩
theorem scTaken : FnScope ["_law_row", "_law_many", "_law_found", "_law_cell"] ["_law_row", "_law_many"] (defScope sTaken) := ⟨rfl, rfl, rfl, by decide +kernel, rfl, by decide +kernel, by decide +kernel⟩
theorem scPick : FnScope ["_law_row", "_law_things"] ["_law_row", "_law_things"] (defScope sPick) := ⟨rfl, rfl, rfl, by decide +kernel, rfl, by decide +kernel, by decide +kernel⟩
theorem scWeb : FnScope ["_law_row", "_law_most", "_law_many", "_law_way", "_law_thin", "_law_arrows", "_law_k", "_law_j"] ["_law_row", "_law_most"] (defScope sWeb) := ⟨rfl, rfl, rfl, by decide +kernel, rfl, by decide +kernel, by decide +kernel⟩
theorem scBurning : FnScope ["_law_row", "_law_many", "_law_thin", "_law_k"] ["_law_row", "_law_many"] (defScope sBurning) := ⟨rfl, rfl, rfl, by decide +kernel, rfl, by decide +kernel, by decide +kernel⟩
theorem scAlike : FnScope ["_law_found", "_law_due", "_law_k"] ["_law_found", "_law_due"] (defScope sAlike) := ⟨rfl, rfl, rfl, by decide +kernel, rfl, by decide +kernel, by decide +kernel⟩
theorem scLNamed : FnScope ["_law_web_here", "_law_burning_here", "_law_order", "_law_names", "_law_k", "_law_a", "_law_b"] ["_law_web_here", "_law_burning_here", "_law_order"] (defScope sLNamed) := ⟨rfl, rfl, rfl, by decide +kernel, rfl, by decide +kernel, by decide +kernel⟩
theorem scLaw : FnScope ["_law_script", "_law_row", "_law_web_here", "_law_burning_here", "_law_orders", "_law_k", "_law_more", "_law_one", "_law_order", "_law_some", "_law_other", "_law_there", "_law_shows", "_law_x"] ["_law_script"] (defScope sLaw) := ⟨rfl, rfl, rfl, by decide +kernel, rfl, by decide +kernel, by decide +kernel⟩

/-- the built-in names are still the built-ins; the constants of the top -/
structure Blt (mg : Str → Option Value) : Prop where
  isi : mg "isinstance" = none
  int : mg "int" = none
  bool : mg "bool" = none
  str : mg "str" = none
  tuple : mg "tuple" = none
  list : mg "list" = none
  len : mg "len" = none
  enum : mg "enumerate" = none
  sorted : mg "sorted" = none
  range : mg "range" = none
  min : mg "min" = none
  set : mg "set" = none
  dict : mg "dict" = none
  nine : ∃ t, mg "MOST_LAMPS" = some (.int 9 t)
  six : ∃ t, mg "MOST_NAMED" = some (.int 6 t)

theorem bt_isi : bootBuiltins "isinstance" = some (.builtin "isinstance") := by decide +kernel
theorem bt_int : bootBuiltins "int" = some (.type "int") := by decide +kernel
theorem bt_bool : bootBuiltins "bool" = some (.type "bool") := by decide +kernel
theorem bt_str : bootBuiltins "str" = some (.type "str") := by decide +kernel
theorem bt_tuple : bootBuiltins "tuple" = some (.type "tuple") := by decide +kernel
theorem bt_list : bootBuiltins "list" = some (.type "list") := by decide +kernel
theorem bt_len : bootBuiltins "len" = some (.builtin "len") := by decide +kernel
theorem bt_sorted : bootBuiltins "sorted" = some (.builtin "sorted") := by decide +kernel
theorem bt_min : bootBuiltins "min" = some (.builtin "min") := by decide +kernel
theorem bt_set : bootBuiltins "set" = some (.type "set") := by decide +kernel
theorem bt_dict : bootBuiltins "dict" = some (.type "dict") := by decide +kernel
theorem kit_ii {K : PySem.W.Frag} : PySem.W.kitOne K (.type "int") (.type "int") = some true := kit_ty (by decide +kernel)
theorem kit_ib {K : PySem.W.Frag} : PySem.W.kitOne K (.type "int") (.type "bool") = some false := kit_ty (by decide +kernel)
theorem kit_bi {K : PySem.W.Frag} : PySem.W.kitOne K (.type "bool") (.type "int") = some true := kit_ty (by decide +kernel)
theorem kit_bb {K : PySem.W.Frag} : PySem.W.kitOne K (.type "bool") (.type "bool") = some true := kit_ty (by decide +kernel)
theorem kit_is {K : PySem.W.Frag} : PySem.W.kitOne K (.type "int") (.type "str") = some false := kit_ty (by decide +kernel)
theorem kit_bs {K : PySem.W.Frag} : PySem.W.kitOne K (.type "bool") (.type "str") = some false := kit_ty (by decide +kernel)
theorem kit_it {K : PySem.W.Frag} : PySem.W.kitOne K (.type "int") (.type "tuple") = some false := kit_ty (by decide +kernel)
theorem kit_il {K : PySem.W.Frag} : PySem.W.kitOne K (.type "int") (.type "list") = some false := kit_ty (by decide +kernel)
theorem kit_bt {K : PySem.W.Frag} : PySem.W.kitOne K (.type "bool") (.type "tuple") = some false := kit_ty (by decide +kernel)
theorem kit_bl {K : PySem.W.Frag} : PySem.W.kitOne K (.type "bool") (.type "list") = some false := kit_ty (by decide +kernel)
theorem kit_tt {K : PySem.W.Frag} : PySem.W.kitOne K (.type "tuple") (.type "tuple") = some true := kit_ty (by decide +kernel)
theorem kit_tl {K : PySem.W.Frag} : PySem.W.kitOne K (.type "tuple") (.type "list") = some false := kit_ty (by decide +kernel)
/-- a tuple's type -/
theorem ty_tup {K : PySem.W.Frag} {H : Hp} {a : Addr} {xs : List V} (h : SqT K H a xs) : TyX K H (.ref a) (.type "tuple") := by
  rcases h with (h | ⟨o, h⟩) | ⟨o, its, n, h, hc, _⟩
  · exact .base (.tup h)
  · exact .fTuple h
  · exact .kTuple h hc
end Kw

/-! ## KwF1 -/
set_option Elab.async false
set_option linter.all false
set_option maxRecDepth 100000
set_option maxHeartbeats 4000000
namespace Kw
open PySem PySem.Spec PyProof.Rows L2
open Evl (Ex ex_t ex_l fresh_back)
section
variable {P : Program} {w : World} {K : PySem.W.Frag} {mg : Str → Option Value} {base : Heap}
/-! ### is_in -/
def spIsIn : Sp := fun vs H Q _ => ∃ v lo hi : Int, vs = [.int v, .int lo, .int hi] ∧ Q (.bl (decide (lo ≤ v) && decide (v ≤ hi))) H
theorem ok_isIn {f : Addr} {fd : FuncData} (F : Fun K "is_in" "is_in" sIsIn f fd) (B : Blt mg) : FnOk P w K mg base CX0 1 f fd ["value", "least", "most"] spIsIn := by
  refine F.ok scIsIn (fun vs H Q E h => ?_) (fun cdv A outer s H vs Q E hr h => ?_)
  · obtain ⟨v, lo, hi, rfl, _⟩ := h
    rfl
  · obtain ⟨v, lo, hi, rfl, q⟩ := h
    refine ⟨_, pss_one (ps_ret (pe_and (pe_callB call_isi (by rfl) B.isi bt_isi (pa_cons (pv 0) (pa_cons (pe_bltn (v := .ty "int") (by rfl) B.int bt_int rfl) pa_nil)))
      (pe_and (pe_not (pe_callB call_isi (by rfl) B.isi bt_isi (pa_cons (pv 0) (pa_cons (pe_bltn (v := .ty "bool") (by rfl) B.bool bt_bool rfl) pa_nil))))
        (pe_one (pe_chain op_le op_le (pv 1) (pv 0) (pv 2)))))), ?_⟩
    refine ⟨_, rfl, _, _, _, _, _, rfl, .ty "int", .base (.int v), kit_ii, _, rfl, iteT ?_⟩
    refine ⟨_, rfl, _, _, _, _, _, rfl, .ty "bool", .base (.int v), kit_ib, _, rfl, _, rfl, iteT ?_⟩
    refine ⟨_, rfl, _, rfl, lo, v, rfl, rfl, _, rfl, ite2 (fun e => ?_) (fun e => ?_)⟩
    · refine ⟨_, rfl, v, hi, rfl, rfl, ?_⟩
      rw [show decide (lo ≤ v) = true from e, Bool.true_and] at q
      exact q
    · rw [Bool.eq_false_iff.mpr e, Bool.false_and] at q
      exact q
end
end Kw

/-! ## KwF2 -/
set_option Elab.async false
set_option linter.all false
set_option maxRecDepth 100000
set_option maxHeartbeats 4000000
namespace Kw
open PySem PySem.Spec PyProof.Rows L2
open Evl (Ex ex_t ex_l fresh_back)
/-- a def of the text where the module's name says it is -/
structure Has (K : PySem.W.Frag) (mg : Str → Option Value) (x : Str) (st : Stmt) (ps : List Str) (f : Addr) (fd : FuncData) : Prop where
  F : Fun K x x st f fd
  g : mg x = some (.ref f)
  b : Binds K fd ps []
theorem dt_nil {K : PySem.W.Frag} {H : Hp} {a : Addr} (h : SqL K H a []) : DT K H (.ref a) ([] : List Int) := Dp.lst h DpAll.nil
section
variable {P : Program} {w : World} {K : PySem.W.Frag} {mg : Str → Option Value} {base : Heap}
/-! ### is_arrow -/
def spIsArrow (K : PySem.W.Frag) : Sp := fun vs H Q _ => ∃ (v : V) (p : Arr) (n : Int), vs = [v, .int n] ∧ DT K H v p ∧ 0 ≤ p.1 ∧ p.1 < n ∧ 0 ≤ p.2 ∧ p.2 < n ∧ p.1 ≠ p.2 ∧ ∀ H', Ex H H' → Q (.bl true) H'
theorem ok_isArrow {f fi : Addr} {fd fdi : FuncData} (F : Fun K "is_arrow" "is_arrow" sIsArrow f fd) (B : Blt mg) (HI : Has K mg "is_in" sIsIn ["value", "least", "most"] fi fdi) : FnOk P w K mg base CX0 2 f fd ["value", "many"] (spIsArrow K) := by
  have GI : FnOk P w K mg base CX0 1 fi fdi ["value", "least", "most"] spIsIn := ok_isIn HI.F B
  refine F.ok scIsArrow (fun vs H Q E h => ?_) (fun cdv A outer s H vs Q E hr h => ?_)
  · obtain ⟨v, p, n, rfl, _⟩ := h
    rfl
  · obtain ⟨v, p, n, rfl, hp, p0, p1, p2, p3, pn, q⟩ := h
    obtain ⟨a, x, y, rfl, hS, hx, hy⟩ := dt_pair_inv hp
    have ex := dt_int_inv hx
    have ey := dt_int_inv hy
    subst ex ey
    refine ⟨_, pss_cons (ps_if (PW.pt (pw_or (pt_not (pt_val (pe_callB call_isi (by rfl) B.isi bt_isi (pa_cons (pv 0) (pa_cons (pe_bltn (v := .ty "tuple") (by rfl) B.tuple bt_tuple rfl) pa_nil)))))
        (pw_or1 (pt_cmpR op_ne (pe_callB call_len_seq (by rfl) B.len bt_len (pa_cons (pv 0) pa_nil)) pe_int (nomark _))))) (pss_one (ps_ret pe_bl)) pss_nil)
      (pss_one (ps_ret (pe_and (pe_cmpR (op_eqT (α := List Int) hr.units (by decide)) (pe_lc (own := [("one", 2)]) (g := gName 2) rfl scIsArrow.nd (pi_tup (pv 0)) (blkOk_by (own := [("one", 2)]) (N := ["value", "many", "one"]) (sc := defScope sIsArrow) (by decide +kernel)) (fun _ _ _ _ _ => pg_name (i := 2) scIsArrow.nd rfl (Or.inl rfl))
          (fun _ _ _ _ _ => pts_one (pt_not (pt_val (pe_call GI hr (by rfl) HI.g HI.F.kp HI.b .nil pass0 (pa_cons (pv 2) (pa_cons pe_int (pa_cons (pe_op op_sub (pv 1) pe_int) pa_nil))))))) (fun _ _ _ _ _ => pv 2)) (pe_lst pa_nil) (nomark _))
        (pe_one (pe_cmpR op_ne (pe_ix ix_tup (pv 0) pe_int (fun _ _ => rfl)) (pe_ix ix_tup (pv 0) pe_int (fun _ _ => rfl)) (nomark _)))))), ?_⟩
    refine ⟨_, rfl, _, _, _, _, _, rfl, .ty "tuple", ty_tup hS, kit_tt, _, rfl, iteF ?_⟩
    refine ⟨_, rfl, a, _, rfl, .inr hS, rfl, _, rfl, iteF ?_⟩
    refine ⟨_, rfl, a, rfl, ⟨_, hS⟩, fun D nD => ?_⟩
    refine lc_tup (K := K) (a := a) (xs := [V.int p.1, V.int p.2]) (fun _ H' => Ex H H' ∧ H' D = some (.lst [])) ⟨Ex.new nD, upd_same⟩ (fun i H' _ p => ex_t p.1 hS) (fun i z H' hz hP => ?_) (fun H' hP => ?_)
    · obtain ⟨k, rfl, hk⟩ : ∃ k : Int, z = .int k ∧ 0 ≤ k ∧ k ≤ n - 1 := by
        match i, hz with
        | 0, hz => exact ⟨p.1, (Option.some.inj hz).symm, p0, by omega⟩
        | 1, hz => exact ⟨p.2, (Option.some.inj hz).symm, p2, by omega⟩
      refine ⟨rfl, _, rfl, _, rfl, _, _, rfl, rfl, k, 0, n - 1, rfl, _, rfl, ?_⟩
      rw [decide_eq_true hk.1, decide_eq_true hk.2]
      exact iteF hP
    · refine ⟨Nat.zero_le _, fun L nL => ?_⟩
      have nDL : D ≠ L := ne_of_none hP.2 nL
      refine ⟨[], [], dt_nil (SqL.of (by rw [upd_ne nDL]; exact hP.2)), dt_nil (SqL.of upd_same), _, rfl, iteT ?_⟩
      have e2 : Ex H (upd H' L (.lst [])) := hP.1.trans (Ex.new nL)
      refine ⟨_, rfl, a, _, 0, _, rfl, rfl, ex_t e2 hS, rfl, _, rfl, a, _, 1, _, rfl, rfl, ex_t e2 hS, rfl, rfl, ?_⟩
      have ed : (!decide (V.int p.1 = V.int p.2)) = true := by
        rw [decide_eq_false (fun z => pn (V.int.inj z))]
        rfl
      rw [ed]
      exact q _ e2
end
end Kw

/-! ## KwF3 -/
set_option Elab.async false
set_option linter.all false
set_option maxRecDepth 100000
set_option maxHeartbeats 4000000
namespace Kw
open PySem PySem.Spec PyProof.Rows L2
open Evl (Ex ex_t ex_l fresh_back)
section
variable {X : Cx} (α : Type) [DecidableEq α] [PySem.W.DatumOrd α]
def rLeD (K : PySem.W.Frag) : R2 := fun x y H Q => ∃ p q : α, DT K H x p ∧ DT K H y q ∧ Q (.bl (!PySem.W.DatumOrd.lt q p)) H
theorem op_leD {α : Type} [DecidableEq α] [PySem.W.DatumOrd α] (hu : X.A.units + 64 < cLine) (hd : PySem.W.Datum.depth α ≤ 60) : OpR X (compareOp .LtE) (rLeD α X.K) := by
  intro pins s σ H x y v u Q I rx ry h
  obtain ⟨p, q, hp, hq, hQ⟩ := h
  exact PySem.W.le_datum (dt_holds I hp rx) (dt_holds I hq ry) (by omega) ⟨.bl _, H, I, rfl, hQ⟩
end
theorem arr_lt {p q : Arr} (h : p.1 < q.1 ∨ (p.1 = q.1 ∧ p.2 < q.2)) : PySem.W.DatumOrd.lt p q = true := by
  show (if p.1 = q.1 then decide (p.2 < q.2) else decide (p.1 < q.1)) = true
  by_cases e : p.1 = q.1
  · rw [if_pos e]
    exact decide_eq_true (by omega)
  · rw [if_neg e]
    exact decide_eq_true (by omega)
theorem pw_at {α : Type} {R : α → α → Prop} {l : List α} (h : l.Pairwise R) {i j : Nat} {a b : α} (hij : i < j) (ha : l[i]? = some a) (hb : l[j]? = some b) : R a b := by
  obtain ⟨h1, e1⟩ := List.getElem?_eq_some_iff.mp ha
  obtain ⟨h2, e2⟩ := List.getElem?_eq_some_iff.mp hb
  have q := List.pairwise_iff_getElem.mp h i j h1 h2 hij
  rw [e1, e2] at q
  exact q
section
variable {P : Program} {w : World} {K : PySem.W.Frag} {mg : Str → Option Value} {base : Heap}
/-! ### need_web -/
def spNeedWeb (K : PySem.W.Frag) : Sp := fun vs H Q _ => ∃ (v : V) (n : Int) (as : List Arr), vs = [v] ∧ DT K H v ((n, PySem.W.Tup.mk as) : WebD) ∧ WebOk n as ∧ ∀ H', Ex H H' → Q .non H'
/-- a web on the heap -/
theorem web_inv {H : Hp} {v : V} {n : Int} {as : List Arr} (h : DT K H v ((n, PySem.W.Tup.mk as) : WebD)) : ∃ a t vs, v = .ref a ∧ SqT K H a [.int n, .ref t] ∧ SqT K H t vs ∧ DTs K H vs as := by
  obtain ⟨a, x, y, rfl, hS, hx, hy⟩ := dt_pair_inv h
  have ex := dt_int_inv hx
  subst ex
  obtain ⟨t, vs, rfl, ht, hs⟩ := dt_tup_inv hy
  exact ⟨a, t, vs, rfl, hS, ht, hs⟩
theorem ok_needWeb {f fi fa : Addr} {fd fdi fda : FuncData} (F : Fun K "need_web" "need_web" sNeedWeb f fd) (B : Blt mg) (HI : Has K mg "is_in" sIsIn ["value", "least", "most"] fi fdi)
    (HA : Has K mg "is_arrow" sIsArrow ["value", "many"] fa fda) : FnOk P w K mg base CX0 3 f fd ["web"] (spNeedWeb K) := by
  have GI : FnOk P w K mg base CX0 1 fi fdi ["value", "least", "most"] spIsIn := ok_isIn HI.F B
  have GA : FnOk P w K mg base CX0 2 fa fda ["value", "many"] (spIsArrow K) := ok_isArrow HA.F B HI
  refine F.ok scNeedWeb (fun vs H Q E h => ?_) (fun cdv A outer s H vs Q E hr h => ?_)
  · obtain ⟨v, n, as, rfl, _⟩ := h
    rfl
  · obtain ⟨v, n, as, rfl, hw, W, q⟩ := h
    obtain ⟨a, t, vs, rfl, hS, hT, hs⟩ := web_inv hw
    obtain ⟨t9, h9⟩ := B.nine
    have hr1 : Room 1 _ := hr.mono (by decide)
    refine ⟨_, pss_cons (ps_if (PW.pt (pw_or (pt_not (pt_val (pe_callB call_isi (by rfl) B.isi bt_isi (pa_cons (pv 0) (pa_cons (pe_bltn (v := .ty "tuple") (by rfl) B.tuple bt_tuple rfl) pa_nil)))))
        (pw_or (pt_cmpR op_ne (pe_callB call_len_seq (by rfl) B.len bt_len (pa_cons (pv 0) pa_nil)) pe_int (nomark _))
          (pw_or1 (pt_not (pt_val (pe_callB call_isi (by rfl) B.isi bt_isi (pa_cons (pe_ix ix_tup (pv 0) pe_int (fun _ _ => rfl)) (pa_cons (pe_bltn (v := .ty "tuple") (by rfl) B.tuple bt_tuple rfl) pa_nil))))))))) pss_never pss_nil)
      (pss_cons (ps_if (pt_not (pt_val (pe_call GI hr1 (by rfl) HI.g HI.F.kp HI.b .nil pass0 (pa_cons (pe_ix ix_tup (pv 0) pe_int (fun _ _ => rfl)) (pa_cons pe_int (pa_cons (pe_glob (v := .int 9) (by rfl) h9 ⟨_, rfl⟩) pa_nil)))))) pss_never pss_nil)
      (pss_one (ps_for PassesOwn.never rfl (pi_enumT (by rfl) B.enum (pa_cons (pe_ix ix_tup (pv 0) pe_int (fun _ _ => rfl)) pa_nil))
          (pg_tup rfl (pgs_cons (pg_name (i := 1) scNeedWeb.nd rfl (Or.inl rfl)) (pgs_cons (pg_name (i := 2) scNeedWeb.nd rfl (Or.inl rfl)) pgs_nil)))
        (pss_one (ps_if (PW.pt (pw_or (pt_not (pt_val (pe_call GA hr (by rfl) HA.g HA.F.kp HA.b .nil pass0 (pa_cons (pv 2) (pa_cons (pe_ix ix_tup (pv 0) pe_int (fun _ _ => rfl)) pa_nil)))))
            (pw_or1 (PW.pt (pw_and (pt_cmpR op_gt (pv 1) pe_int (nomark _)) (pw_and1 (pt_cmpR (op_leD (α := Arr) hr.units (by decide)) (pv 2) (pe_ix ix_tup (pe_ix ix_tup (pv 0) pe_int (fun _ _ => rfl)) (pe_op op_sub (pv 1) pe_int) (fun _ _ => rfl)) (nomark _)))))))) pss_never pss_nil))))), ?_⟩
    refine ⟨_, rfl, _, _, _, _, _, rfl, .ty "tuple", ty_tup hS, kit_tt, _, rfl, iteF ?_⟩
    refine ⟨_, rfl, a, _, rfl, .inr hS, rfl, _, rfl, iteF ?_⟩
    refine ⟨_, rfl, a, _, 1, _, rfl, rfl, hS, rfl, _, _, _, _, _, rfl, .ty "tuple", ty_tup hT, kit_tt, _, rfl, iteF ?_⟩
    refine ⟨_, rfl, a, _, 0, _, rfl, rfl, hS, rfl, n, 1, 9, rfl, _, rfl, ?_⟩
    have n1 := W.n1
    have n4 := W.n4
    rw [decide_eq_true n1, decide_eq_true (show n ≤ 9 by omega)]
    refine iteF ?_
    refine ⟨_, rfl, a, _, 1, _, rfl, rfl, hS, rfl, t, vs, rfl, hT, ?_⟩
    refine for_it walk_enumT (fun i σ H' => Ex H H' ∧ ∃ y1 y2, σ = [some (.ref a), y1, y2]) ⟨Ex.refl H, none, none, rfl⟩ (fun i σ H' _ hP => ex_t hP.1 hT) (fun i x σ H' H'' hi hP hY => ?_) (fun σ H' hP => q H' hP.1)
    obtain ⟨e1, y1, y2, rfl⟩ := hP
    obtain ⟨T, u, y, rfl, nT, rfl, eu, ey⟩ := hY
    have eu' : V.int ((i : Nat) : Int) = u := Option.some.inj eu
    subst eu'
    have ey' : vs[i]? = some y := ey
    obtain ⟨p, hp, hd⟩ := dts_get (dts_ex (e1.trans (Ex.new nT)) hs) ey'
    have e2 : Ex H (upd H' T (.tup [.int ((i : Nat) : Int), y])) := e1.trans (Ex.new nT)
    refine ⟨T, _, rfl, SqT.of upd_same, rfl, _, _, rfl, _, _, rfl, rfl, ?_⟩
    obtain ⟨a1, a2, a3, a4, a5⟩ := W.arr p (List.mem_of_getElem? hp)
    refine ⟨y, rfl, .ref a, rfl, a, _, 0, _, rfl, rfl, ex_t e2 hS, rfl, y, p, n, rfl, hd, a1, a2, a3, a4, a5, fun H3 e3 => ⟨_, rfl, iteF ?_⟩⟩
    refine ⟨_, rfl, ((i : Nat) : Int), 0, rfl, rfl, _, rfl, ite2 (fun c => ?_) (fun c => iteF ?_)⟩
    · have ci : 0 < i := by
        have := of_decide_eq_true c
        omega
      have e4 : Ex H H3 := e2.trans e3
      obtain ⟨p', hp'⟩ : ∃ p', as[i - 1]? = some p' := by
        have := (List.getElem?_eq_some_iff.mp hp).1
        exact ⟨as[i - 1], List.getElem?_eq_getElem (by omega)⟩
      obtain ⟨y', hy', hd'⟩ := dts_get' (dts_ex e4 hs) hp'
      refine ⟨y, rfl, .ref a, rfl, a, _, 1, _, rfl, rfl, ex_t e4 hS, rfl, _, rfl, _, 1, rfl, rfl, t, vs, _, y', rfl, rfl, ex_t e4 hT, at_of (by omega) hy', p, p', dt_ex e3 hd, hd', _, rfl, ?_⟩
      rw [arr_lt (pw_at W.asc (by omega) hp' hp)]
      exact iteF ⟨e4, _, _, rfl⟩
    · exact ⟨e2.trans e3, _, _, rfl⟩
end
end Kw

/-! ## KwL -/
set_option Elab.async false
set_option linter.all false
set_option maxRecDepth 100000
set_option maxHeartbeats 4000000
namespace Kw
open PySem PySem.Spec PyProof.Rows L2
open Evl (Ex ex_t ex_l fresh_back)
/-! ### comprehensions that leave what stood: the new list holds what a plain function says -/
/-- what a comprehension asks behind its source, D the new list -/
def LcGoal (J : It) (g : TG) (tt : TT) (te : TE) (vs : List Nat) (σ : L2.St) (H1 : Hp) (D : Addr) (Qd : Hp → Prop) : Prop :=
  ∃ W : Nat → Nat → Hp → Prop, (∃ m, W 0 m (upd H1 D (.lst []))) ∧ ∀ i m H, W i m H →
    ((J.stop i H ∧ Qd H) ∨
      (J.go i H ∧ ∃ Nx : Hp → Prop, (∀ H', Nx H' → ∃ m', m' < m ∧ W (i + 1) m' H') ∧
        ∀ x H', J.yld i H x H' → g x (wipe σ vs) H' fun σ2 H2 => wipe σ2 vs = wipe σ vs ∧
          tt σ2 H2 fun b H3 => if b = true then te σ2 H3 fun y H4 => ∃ acc, H4 D = some (.lst acc) ∧ acc.length < sizeLine ∧ Nx (upd H4 D (.lst (acc ++ [y])))
            else Nx H3))
theorem sqt_updL {K : PySem.W.Frag} {H : Hp} {D a : Addr} {xs0 xs : List V} {o : HO} (h : H D = some (.lst xs0)) (q : SqT K H a xs) : SqT K (upd H D o) a xs := by
  rcases q with (q | ⟨u, q⟩) | q
  · exact .inl (.inl (by rw [upd_ne (ne_of q h (fun z => nomatch z))]; exact q))
  · exact .inl (.inr ⟨u, by rw [upd_ne (ne_of q h (fun z => nomatch z))]; exact q⟩)
  · exact .inr q
theorem filter_take {α : Type} (p : α → Bool) {l : List α} {i : Nat} {x : α} (h : l[i]? = some x) : (l.take (i + 1)).filter p = if p x = true then (l.take i).filter p ++ [x] else (l.take i).filter p := by
  rw [List.take_add_one, h]
  show (l.take i ++ [x]).filter p = _
  rw [List.filter_append]
  by_cases e : p x = true
  · rw [if_pos e, List.filter_cons, if_pos e]
    rfl
  · rw [if_neg e, List.filter_cons, if_neg e]
    exact List.append_nil _
section
variable {K : PySem.W.Frag} {J : It} {n : Nat} {G : Hp → Prop} {Y : Nat → Hp → V → Hp → Prop} {g : TG} {tt : TT} {te : TE} {vs : List Nat} {σ : L2.St} {H : Hp} {D : Addr} {Qd : Hp → Prop} {α β : Type} [DecidableEq β] [PySem.W.Datum β] [Kp β]
theorem lcW (Wk : Walk J n G Y) (l : List α) (hl : l.length = n) (p : α → Bool) (f : α → β) (nD : H D = none) (hn : n ≤ 1000) (hG : ∀ H', Ex H H' → G H')
    (hs : ∀ i x z H' H'' (Qy : V → Hp → Prop) (Qn : Hp → Prop), l[i]? = some x → Ex H H' → Y i H' z H'' → (p x = true → ∀ y H4, Ex H' H4 → DT K H4 y (f x) → Qy y H4) → (p x = false → ∀ H3, Ex H' H3 → Qn H3) →
      g z (wipe σ vs) H'' fun σ2 H2 => wipe σ2 vs = wipe σ vs ∧ tt σ2 H2 fun b H3 => if b = true then te σ2 H3 Qy else Qn H3)
    (hq : ∀ ys H', Ex H H' → H' D = some (.lst ys) → DTs K H' ys ((l.filter p).map f) → Qd H') : LcGoal J g tt te vs σ H D Qd := by
  refine lc_it Wk (fun i H' => Ex H H' ∧ ∃ acc, H' D = some (.lst acc) ∧ DTs K H' acc (((l.take i).filter p).map f)) ⟨Ex.new nD, [], upd_same, dts_nil⟩ (fun i H' _ hP => hG H' hP.1) (fun i z H' H'' hi hP hY => ?_) (fun H' hP => ?_)
  · obtain ⟨e1, acc, hD, hacc⟩ := hP
    have hx : l[i]? = some l[i] := List.getElem?_eq_getElem (by omega)
    have hft := filter_take p hx
    refine hs i _ z H' H'' _ _ hx e1 hY (fun hp y H4 e4 hy => ⟨acc, e4 _ _ hD, ?_, ?_, acc ++ [y], upd_same, ?_⟩) (fun hp H3 e3 => ⟨e1.trans e3, acc, e3 _ _ hD, ?_⟩)
    · have h1 := dts_len hacc
      have h2 := List.length_filter_le p (l.take i)
      rw [List.length_map] at h1
      rw [List.length_take] at h2
      rw [sizeLine_eq]
      omega
    · exact (e1.trans e4).mut nD
    · rw [hft, if_pos hp, List.map_append]
      exact dts_keep (fun _ _ q => sqt_updL (e4 _ _ hD) q) (dts_snoc (dts_ex e4 hacc) hy)
    · rw [hft, if_neg (by rw [hp]; exact Bool.false_ne_true)]
      exact dts_ex e3 hacc
  · obtain ⟨e1, acc, hD, hacc⟩ := hP
    rw [← hl, List.take_length] at hacc
    exact hq acc H' e1 hD hacc
end
theorem filter_yes {α : Type} (l : List α) : l.filter (fun _ => true) = l := List.filter_eq_self.mpr fun _ _ => rfl
theorem filter_no {α : Type} (l : List α) : l.filter (fun _ => false) = [] := List.filter_eq_nil_iff.mpr fun _ _ => Bool.false_ne_true
end Kw

/-! ## KwF4 -/
set_option Elab.async false
set_option linter.all false
set_option maxRecDepth 100000
set_option maxHeartbeats 4000000
namespace Kw
open PySem PySem.Spec PyProof.Rows L2
open Evl (Ex ex_t ex_l fresh_back)
section
variable {P : Program} {w : World} {K : PySem.W.Frag} {mg : Str → Option Value} {base : Heap}
/-! ### need_burning -/
def spNeedBurning (K : PySem.W.Frag) : Sp := fun vs H Q _ => ∃ (v u : V) (n : Int) (as : List Arr) (bs : List Int), vs = [v, u] ∧ DT K H v ((n, PySem.W.Tup.mk as) : WebD) ∧ DT K H u (PySem.W.Tup.mk bs : TupL Int) ∧ BurnOk n bs ∧ ∀ H', Ex H H' → Q .non H'
theorem burn_inv {H : Hp} {u : V} {bs : List Int} (h : DT K H u (PySem.W.Tup.mk bs : TupL Int)) : ∃ t, u = .ref t ∧ SqT K H t (bs.map V.int) := by
  obtain ⟨t, vs, rfl, ht, hs⟩ := dt_tup_inv h
  have e := dts_ints_inv hs
  subst e
  exact ⟨t, rfl, ht⟩
theorem map_at {bs : List Int} {i : Nat} {y : V} (h : (bs.map V.int)[i]? = some y) : ∃ k, bs[i]? = some k ∧ y = .int k := by
  rw [List.getElem?_map] at h
  cases e : bs[i]? with
  | none =>
    rw [e] at h
    cases h
  | some k =>
    rw [e] at h
    exact ⟨k, rfl, (Option.some.inj h).symm⟩
theorem map_at' {bs : List Int} {i : Nat} {k : Int} (h : bs[i]? = some k) : (bs.map V.int)[i]? = some (.int k) := by
  rw [List.getElem?_map, h]
  rfl
theorem ok_needBurning {f fi : Addr} {fd fdi : FuncData} (F : Fun K "need_burning" "need_burning" sNeedBurning f fd) (B : Blt mg) (HI : Has K mg "is_in" sIsIn ["value", "least", "most"] fi fdi) : FnOk P w K mg base CX0 2 f fd ["web", "burning"] (spNeedBurning K) := by
  have GI : FnOk P w K mg base CX0 1 fi fdi ["value", "least", "most"] spIsIn := ok_isIn HI.F B
  refine F.ok scNeedBurning (fun vs H Q E h => ?_) (fun cdv A outer s H vs Q E hr h => ?_)
  · obtain ⟨v, u, n, as, bs, rfl, _⟩ := h
    rfl
  · obtain ⟨v, u, n, as, bs, rfl, hw, hb, O, q⟩ := h
    obtain ⟨a, t, vs, rfl, hS, _, _⟩ := web_inv hw
    obtain ⟨b, rfl, hB⟩ := burn_inv hb
    refine ⟨_, pss_cons (ps_if (pt_not (pt_val (pe_callB call_isi (by rfl) B.isi bt_isi (pa_cons (pv 1) (pa_cons (pe_bltn (v := .ty "tuple") (by rfl) B.tuple bt_tuple rfl) pa_nil))))) pss_never pss_nil)
      (pss_one (ps_for PassesOwn.never rfl (pi_enumT (by rfl) B.enum (pa_cons (pv 1) pa_nil))
          (pg_tup rfl (pgs_cons (pg_name (i := 2) scNeedBurning.nd rfl (Or.inl rfl)) (pgs_cons (pg_name (i := 3) scNeedBurning.nd rfl (Or.inl rfl)) pgs_nil)))
        (pss_one (ps_if (PW.pt (pw_or (pt_not (pt_val (pe_call GI hr (by rfl) HI.g HI.F.kp HI.b .nil pass0 (pa_cons (pv 3) (pa_cons pe_int (pa_cons (pe_op op_sub (pe_ix ix_tup (pv 0) pe_int (fun _ _ => rfl)) pe_int) pa_nil))))))
            (pw_or1 (PW.pt (pw_and (pt_cmpR op_gt (pv 2) pe_int (nomark _)) (pw_and1 (pt_cmpR op_le (pv 3) (pe_ix ix_tup (pv 1) (pe_op op_sub (pv 2) pe_int) (fun _ _ => rfl)) (nomark _)))))))) pss_never pss_nil)))), ?_⟩
    refine ⟨_, rfl, _, _, _, _, _, rfl, .ty "tuple", ty_tup hB, kit_tt, _, rfl, iteF ?_⟩
    refine ⟨_, rfl, b, _, rfl, hB, ?_⟩
    refine for_it walk_enumT (fun i σ H' => Ex H H' ∧ ∃ y1 y2, σ = [some (.ref a), some (.ref b), y1, y2]) ⟨Ex.refl H, none, none, rfl⟩ (fun i σ H' _ hP => ex_t hP.1 hB) (fun i x σ H' H'' hi hP hY => ?_) (fun σ H' hP => q H' hP.1)
    obtain ⟨e1, y1, y2, rfl⟩ := hP
    obtain ⟨T, u, y, rfl, nT, rfl, eu, ey⟩ := hY
    have eu' : V.int ((i : Nat) : Int) = u := Option.some.inj eu
    subst eu'
    obtain ⟨k, hk, rfl⟩ := map_at ey
    have e2 : Ex H (upd H' T (.tup [.int ((i : Nat) : Int), .int k])) := e1.trans (Ex.new nT)
    obtain ⟨k0, k1⟩ := O.lamp k (List.mem_of_getElem? hk)
    refine ⟨T, _, rfl, SqT.of upd_same, rfl, _, _, rfl, _, _, rfl, rfl, ?_⟩
    refine ⟨_, rfl, _, rfl, a, _, 0, _, rfl, rfl, ex_t e2 hS, rfl, n, 1, rfl, rfl, k, 0, n - 1, rfl, _, rfl, ?_⟩
    rw [decide_eq_true k0, decide_eq_true (show k ≤ n - 1 by omega)]
    refine iteF ?_
    refine ⟨_, rfl, ((i : Nat) : Int), 0, rfl, rfl, _, rfl, ite2 (fun c => ?_) (fun c => iteF ?_)⟩
    · have ci : 0 < i := by
        have := of_decide_eq_true c
        omega
      obtain ⟨k', hk'⟩ : ∃ k', bs[i - 1]? = some k' := by
        have := (List.getElem?_eq_some_iff.mp hk).1
        exact ⟨bs[i - 1], List.getElem?_eq_getElem (by omega)⟩
      have lt : k' < k := pw_at O.asc (by omega) hk' hk
      refine ⟨_, rfl, .ref b, rfl, _, rfl, _, 1, rfl, rfl, b, _, _, .int k', rfl, rfl, ex_t e2 hB, at_of (by omega) (map_at' hk'), k, k', rfl, rfl, _, rfl, ?_⟩
      rw [decide_eq_false (show ¬ k ≤ k' by omega)]
      exact iteF ⟨e2, _, _, rfl⟩
    · exact ⟨e2, _, _, rfl⟩
/-! ### need_both -/
theorem ok_needBoth {f fi fa fw fb : Addr} {fd fdi fda fdw fdb : FuncData} (F : Fun K "need_both" "need_both" sNeedBoth f fd) (B : Blt mg) (HI : Has K mg "is_in" sIsIn ["value", "least", "most"] fi fdi)
    (HA : Has K mg "is_arrow" sIsArrow ["value", "many"] fa fda) (HW : Has K mg "need_web" sNeedWeb ["web"] fw fdw) (HB : Has K mg "need_burning" sNeedBurning ["web", "burning"] fb fdb) :
    FnOk P w K mg base CX0 4 f fd ["web", "burning"] (fun vs H Q _ => ∃ (v u : V) (n : Int) (as : List Arr) (bs : List Int), vs = [v, u] ∧ DT K H v ((n, PySem.W.Tup.mk as) : WebD) ∧ DT K H u (PySem.W.Tup.mk bs : TupL Int) ∧ WebOk n as ∧ BurnOk n bs ∧ ∀ H', Ex H H' → Q .non H') := by
  have GW : FnOk P w K mg base CX0 3 fw fdw ["web"] (spNeedWeb K) := ok_needWeb HW.F B HI HA
  have GB : FnOk P w K mg base CX0 2 fb fdb ["web", "burning"] (spNeedBurning K) := ok_needBurning HB.F B HI
  refine F.ok scNeedBoth (fun vs H Q E h => ?_) (fun cdv A outer s H vs Q E hr h => ?_)
  · obtain ⟨v, u, n, as, bs, rfl, _⟩ := h
    rfl
  · obtain ⟨v, u, n, as, bs, rfl, hw, hb, W, O, q⟩ := h
    refine ⟨_, pss_cons (ps_expr (pe_call GW hr (by rfl) HW.g HW.F.kp HW.b .nil pass0 (pa_cons (pv 0) pa_nil))) (pss_one (ps_expr (pe_call GB (hr.mono (by decide)) (by rfl) HB.g HB.F.kp HB.b .nil pass0 (pa_cons (pv 0) (pa_cons (pv 1) pa_nil))))), ?_⟩
    refine ⟨_, rfl, v, n, as, rfl, hw, W, fun H1 e1 => ?_⟩
    exact ⟨_, rfl, _, rfl, v, u, n, as, bs, rfl, dt_ex e1 hw, dt_ex e1 hb, O, fun H2 e2 => q H2 (e1.trans e2)⟩
/-! ### named -/
def spNamed (K : PySem.W.Frag) : Sp := fun vs H Q _ => ∃ (v u : V) (o : Addr) (n : Int) (as : List Arr) (bs os : List Int), vs = [v, u, .ref o] ∧ DT K H v ((n, PySem.W.Tup.mk as) : WebD) ∧ DT K H u (PySem.W.Tup.mk bs : TupL Int) ∧ PT H o (os.map V.int) ∧
  (∀ p ∈ as, p.1 ∈ os ∧ p.2 ∈ os) ∧ (∀ b ∈ bs, b ∈ os) ∧ as.length ≤ 64 ∧ bs.length ≤ 64 ∧ ∀ z H', Ex H H' → DT K H' z (namedM n as bs os) → Q z H'
theorem ok_named {f : Addr} {fd : FuncData} (F : Fun K "named" "named" sNamed f fd) (B : Blt mg) : FnOk P w K mg base CX0 1 f fd ["web", "burning", "order"] (spNamed K) := by
  refine F.ok scNamed (fun vs H Q E h => ?_) (fun cdv A outer s H vs Q E hr h => ?_)
  · obtain ⟨v, u, o, n, as, bs, os, rfl, _⟩ := h
    rfl
  · obtain ⟨v, u, o, n, as, bs, os, rfl, hw, hb, hO, ha, hk, la, lb, q⟩ := h
    obtain ⟨a, t, vs, rfl, hS, hT, hs⟩ := web_inv hw
    obtain ⟨b, rfl, hB⟩ := burn_inv hb
    refine ⟨_, pss_cons (ps_set (i := 3) scNamed.nd rfl (Or.inl rfl) (pe_callB (cr_sortD (α := Arr) hr.units) (by rfl) B.sorted bt_sorted (pa_cons
        (pe_lc (own := [("one", 4), ("other", 5)]) (g := gTup K 2 (gCons (gName 4) (gCons (gName 5) gNil))) (tt := tYes) rfl scNamed.nd (pi_tup (pe_ix ix_tup (pv 0) pe_int (fun _ _ => rfl)))
          (blkOk_by (own := [("one", 4), ("other", 5)]) (N := ["web", "burning", "order", "arrows", "one", "other", "k"]) (sc := defScope sNamed) (by decide +kernel))
          (fun _ _ _ _ _ => pg_tup rfl (pgs_cons (pg_name (i := 4) scNamed.nd rfl (Or.inl rfl)) (pgs_cons (pg_name (i := 5) scNamed.nd rfl (Or.inl rfl)) pgs_nil))) (fun _ _ _ _ _ => pts_nil)
          (fun _ _ _ _ _ => pe_tup (pa_cons (pe_tidx hr.units (pv 2) (pv 4)) (pa_cons (pe_tidx hr.units (pv 2) (pv 5)) pa_nil)))) pa_nil)))
      (pss_one (ps_ret (pe_tup (pa_cons (pe_tup (pa_cons (pe_ix ix_tup (pv 0) pe_int (fun _ _ => rfl)) (pa_cons (pe_callTy call_tuple_of (by rfl) B.tuple bt_tuple (pa_cons (pv 3) pa_nil)) pa_nil)))
        (pa_cons (pe_callTy call_tuple_of (by rfl) B.tuple bt_tuple (pa_cons (pe_callB (cr_sortD (α := Int) hr.units) (by rfl) B.sorted bt_sorted (pa_cons
          (pe_lc (own := [("k", 6)]) (g := gName 6) (tt := tYes) rfl scNamed.nd (pi_tup (pv 1))
            (blkOk_by (own := [("k", 6)]) (N := ["web", "burning", "order", "arrows", "one", "other", "k"]) (sc := defScope sNamed) (by decide +kernel))
            (fun _ _ _ _ _ => pg_name (i := 6) scNamed.nd rfl (Or.inl rfl)) (fun _ _ _ _ _ => pts_nil) (fun _ _ _ _ _ => pe_tidx hr.units (pv 2) (pv 6))) pa_nil)) pa_nil)) pa_nil))))), ?_⟩
    have lv := dts_len hs
    refine ⟨_, rfl, a, _, 1, _, rfl, rfl, hS, rfl, t, rfl, ⟨_, hT⟩, fun D nD => ?_⟩
    refine lcW (K := K) walk_tup as lv.symm (fun _ => true) (fun p : Arr => ((idx os p.1, idx os p.2) : Arr)) nD (by omega) (fun H' e => ex_t e hT) (fun i p z H' H'' Qy Qn hp e1 hY hy hn => ?_) (fun ys H1 e1 hD hys => ?_)
    · obtain ⟨rfl, hz⟩ := hY
      obtain ⟨p', hp', hd⟩ := dts_get (dts_ex e1 hs) hz
      rw [hp] at hp'
      cases hp'
      obtain ⟨c, x, y, rfl, hc, hx, hy'⟩ := dt_pair_inv hd
      have ex := dt_int_inv hx
      have ey := dt_int_inv hy'
      subst ex ey
      obtain ⟨m1, m2⟩ := ha p (List.mem_of_getElem? hp)
      refine ⟨c, _, rfl, hc, rfl, _, _, rfl, _, _, rfl, rfl, rfl, ?_⟩
      refine ⟨_, rfl, ⟨o, _, rfl, hO.ex e1⟩, _, rfl, o, os, p.1, rfl, rfl, hO.ex e1, m1, _, rfl, ⟨o, _, rfl, hO.ex e1⟩, _, rfl, o, os, p.2, rfl, rfl, hO.ex e1, m2, (by show 2 ≤ sizeLine; decide), fun T nT => ?_⟩
      exact hy rfl _ _ (Ex.new nT) (dt_pair (SqT.of upd_same) (dt_int _) (dt_int _))
    · rw [filter_yes] at hys
      refine ⟨D, ys, _, rfl, .inl (SqL.of hD), hys, (by rw [List.length_map]; omega), fun L zs nL hz => ?_⟩
      have e2 : Ex H (upd H1 L (.lst zs)) := e1.trans (Ex.new nL)
      refine ⟨_, rfl, a, _, 0, _, rfl, rfl, ex_t e2 hS, rfl, _, rfl, L, zs, rfl, .inl ⟨SqL.of upd_same, fun M nM => ?_⟩⟩
      have e3 : Ex H (upd (upd H1 L (.lst zs)) M (.tup zs)) := e2.trans (Ex.new nM)
      refine ⟨(by show 2 ≤ sizeLine; decide), fun T nT => ?_⟩
      have e4 := e3.trans (Ex.new (o := .tup [.int n, .ref M]) nT)
      refine ⟨_, rfl, b, rfl, ⟨_, ex_t e4 hB⟩, fun D2 nD2 => ?_⟩
      refine lcW (K := K) (g := gName 6) (tt := tYes) walk_tup bs (by rw [List.length_map]) (fun _ => true) (idx os) nD2 (by rw [List.length_map]; omega) (fun H' e => ex_t (e4.trans e) hB) (fun i k z H' H'' Qy Qn hp e5 hY hy hn => ?_) (fun ws H2 e5 hD2 hws => ?_)
      · obtain ⟨rfl, hz2⟩ := hY
        obtain ⟨k', hk', rfl⟩ := map_at hz2
        rw [hp] at hk'
        cases hk'
        have e6 := e4.trans e5
        refine ⟨rfl, ?_⟩
        refine ⟨_, rfl, ⟨o, _, rfl, hO.ex e6⟩, _, rfl, o, os, k, rfl, rfl, hO.ex e6, hk k (List.mem_of_getElem? hp), ?_⟩
        exact hy rfl _ _ (Ex.refl _) (dt_int _)
      · rw [filter_yes] at hws
        refine ⟨D2, ws, _, rfl, .inl (SqL.of hD2), hws, (by rw [List.length_map]; omega), fun L2 us nL2 hu => ?_⟩
        refine ⟨L2, us, rfl, .inl ⟨SqL.of upd_same, fun M2 nM2 => ?_⟩⟩
        refine ⟨(by show 2 ≤ sizeLine; decide), fun T2 nT2 => ?_⟩
        have x1 : Ex (upd (upd (upd H1 L (.lst zs)) M (.tup zs)) T (.tup [.int n, .ref M])) H2 := e5
        have x2 : Ex H2 (upd H2 L2 (.lst us)) := Ex.new nL2
        have x3 := x2.trans (Ex.new (o := .tup us) nM2)
        have x4 := x3.trans (Ex.new (o := .tup [.ref T, .ref M2]) nT2)
        have x0 : Ex (upd H1 L (.lst zs)) (upd (upd H1 L (.lst zs)) M (.tup zs)) := Ex.new nM
        have x01 : Ex (upd (upd H1 L (.lst zs)) M (.tup zs)) (upd (upd (upd H1 L (.lst zs)) M (.tup zs)) T (.tup [.int n, .ref M])) := Ex.new nT
        refine q _ _ (e4.trans (e5.trans x4)) (dt_pair (SqT.of upd_same) ?_ ?_)
        · refine dt_pair (p := ((n, PySem.W.Tup.mk (srt (as.map fun p => ((idx os p.1, idx os p.2) : Arr)))) : WebD)) (ex_t (x1.trans x4) (SqT.of upd_same)) (dt_int _) ?_
          refine dt_tup (ex_t (x01.trans (x1.trans x4)) (SqT.of upd_same)) ?_
          exact dts_ex ((Ex.new nL).trans (x0.trans (x01.trans (x1.trans x4)))) hz
        · exact dt_tup (ex_t (Ex.new nT2) (SqT.of upd_same)) (dts_ex x4 hu)
end
end Kw

/-! ## KwF5 -/
set_option Elab.async false
set_option linter.all false
set_option maxRecDepth 100000
set_option maxHeartbeats 4000000
namespace Kw
open PySem PySem.Spec PyProof.Rows L2
open Evl (Ex ex_t ex_l fresh_back)
section
variable {X : Cx} (α : Type) [DecidableEq α] [PySem.W.Datum α]
def rNeT (K : PySem.W.Frag) : R2 := fun x y H Q => ∃ p q : α, DT K H x p ∧ DT K H y q ∧ Q (.bl (decide (p ≠ q))) H
theorem op_neT {α : Type} [DecidableEq α] [PySem.W.Datum α] (hu : X.A.units + 64 < cLine) (hd : PySem.W.Datum.depth α ≤ 60) : OpR X (compareOp .NotEq) (rNeT α X.K) := by
  intro pins s σ H x y v u Q I rx ry h
  obtain ⟨p, q, hp, hq, hQ⟩ := h
  exact PySem.W.ne_datum (dt_holds I hp rx) (dt_holds I hq ry) (by omega) ⟨.bl _, H, I, rfl, hQ⟩
end
section
variable {X : Cx}
/-- k not in t, t a tuple of ints -/
def rNotInI (K : PySem.W.Frag) : R2 := fun x y H Q => ∃ (k : Int) (a : Addr) (ns : List Int), x = .int k ∧ y = .ref a ∧ SqT K H a (ns.map V.int) ∧ Q (.bl (decide (k ∉ ns))) H
theorem op_notInI (hu : X.A.units + 64 < cLine) : OpR X (compareOp .NotIn) (rNotInI X.K) := by
  intro pins s σ H x y v u Q I rx ry h
  obtain ⟨k, a, ns, rfl, rfl, hs, hQ⟩ := h
  cases ry
  obtain ⟨its, rv, pl, hz⟩ := I.tuple hs
  exact PySem.W.notIn_tuple_datum (α := Int) pl (dts_holds I (dts_ints ns) rv) (dt_holds I (dt_int k) rx) (by show X.A.units + 1 + 0 < cLine; omega) ⟨.bl _, H, I, rfl, hQ⟩
end
theorem dt_list {α : Type} [DecidableEq α] [PySem.W.Datum α] {K : PySem.W.Frag} {H : Hp} {a : Addr} {vs : List V} {l : List α} (h : SqL K H a vs) (hs : DTs K H vs l) : DT K H (.ref a) l := Dp.lst h hs
theorem rgV_rng (n : Int) : rgV 0 n = (rng n.toNat).map V.int := by
  unfold rgV rng
  rw [List.map_map, show (n - 0).toNat = n.toNat by omega]
  refine List.map_congr_left fun i _ => ?_
  show V.int (0 + (i : Int)) = V.int (i : Int)
  rw [Int.zero_add]
/-- the orders on the heap -/
def POs (H : Hp) (vs : List V) (l : List (List Int)) : Prop := vs.length = l.length ∧ ∀ (i : Nat) (v : V) (os : List Int), vs[i]? = some v → l[i]? = some os → ∃ a, v = V.ref a ∧ PT H a (os.map V.int)
theorem POs.ex {H H' : Hp} {vs : List V} {l : List (List Int)} (e : Ex H H') (h : POs H vs l) : POs H' vs l := ⟨h.1, fun i v os h1 h2 => by
  obtain ⟨a, e1, q⟩ := h.2 i v os h1 h2
  exact ⟨a, e1, q.ex e⟩⟩
theorem PT.updL {H : Hp} {D a : Addr} {xs0 xs : List V} {o : HO} (h : H D = some (.lst xs0)) (q : PT H a xs) : PT (upd H D o) a xs := by
  obtain ⟨u, q, d⟩ := q
  exact ⟨u, by rw [upd_ne (ne_of q h (fun z => nomatch z))]; exact q, d⟩
theorem POs.updL {H : Hp} {D : Addr} {xs0 : List V} {o : HO} {vs : List V} {l : List (List Int)} (h : H D = some (.lst xs0)) (q : POs H vs l) : POs (upd H D o) vs l := ⟨q.1, fun i v os h1 h2 => by
  obtain ⟨a, e1, z⟩ := q.2 i v os h1 h2
  exact ⟨a, e1, z.updL h⟩⟩
theorem POs.snoc {H : Hp} {vs : List V} {l : List (List Int)} {a : Addr} {os : List Int} (h : POs H vs l) (q : PT H a (os.map V.int)) : POs H (vs ++ [.ref a]) (l ++ [os]) := by
  refine ⟨by rw [List.length_append, List.length_append, h.1]; rfl, fun i v os' h1 h2 => ?_⟩
  by_cases hi : i < vs.length
  · rw [List.getElem?_append_left hi] at h1
    rw [List.getElem?_append_left (by rw [← h.1]; exact hi)] at h2
    exact h.2 i v os' h1 h2
  · rw [List.getElem?_append_right (by omega)] at h1
    rw [List.getElem?_append_right (by rw [← h.1]; omega), ← h.1] at h2
    have e0 : i - vs.length = 0 := by
      have := (List.getElem?_eq_some_iff.mp h1).1
      rw [List.length_singleton] at this
      omega
    rw [e0] at h1 h2
    have e1 : V.ref a = v := Option.some.inj h1
    have e2 : os = os' := Option.some.inj h2
    subst e1 e2
    exact ⟨a, rfl, q⟩
section
variable {P : Program} {w : World} {K : PySem.W.Frag} {mg : Str → Option Value} {base : Heap}
/-! ### need_order -/
def spNeedOrder (K : PySem.W.Frag) : Sp := fun vs H Q _ => ∃ (v : V) (o : Addr) (n : Int) (as : List Arr) (os : List Int), vs = [v, .ref o] ∧ DT K H v ((n, PySem.W.Tup.mk as) : WebD) ∧ PT H o (os.map V.int) ∧ OrdOk n os ∧ 1 ≤ n ∧ n ≤ 4 ∧ ∀ H', Ex H H' → Q .non H'
theorem ok_needOrder {f fi : Addr} {fd fdi : FuncData} (F : Fun K "need_order" "need_order" sNeedOrder f fd) (B : Blt mg) (HI : Has K mg "is_in" sIsIn ["value", "least", "most"] fi fdi) : FnOk P w K mg base CX0 2 f fd ["web", "order"] (spNeedOrder K) := by
  have GI : FnOk P w K mg base CX0 1 fi fdi ["value", "least", "most"] spIsIn := ok_isIn HI.F B
  refine F.ok scNeedOrder (fun vs H Q E h => ?_) (fun cdv A outer s H vs Q E hr h => ?_)
  · obtain ⟨v, o, n, as, os, rfl, _⟩ := h
    rfl
  · obtain ⟨v, o, n, as, os, rfl, hw, hO, O, n1, n4, q⟩ := h
    obtain ⟨a, t, vs, rfl, hS, _, _⟩ := web_inv hw
    refine ⟨_, pss_cons (ps_if (PW.pt (pw_or (pt_not (pt_val (pe_callB call_isi (by rfl) B.isi bt_isi (pa_cons (pv 1) (pa_cons (pe_bltn (v := .ty "tuple") (by rfl) B.tuple bt_tuple rfl) pa_nil)))))
        (pw_or1 (pt_cmpR (op_neT (α := List Int) hr.units (by decide)) (pe_lc (own := [("one", 2)]) (g := gName 2) rfl scNeedOrder.nd (pi_tup (pv 1)) (blkOk_by (own := [("one", 2)]) (N := ["web", "order", "one"]) (sc := defScope sNeedOrder) (by decide +kernel)) (fun _ _ _ _ _ => pg_name (i := 2) scNeedOrder.nd rfl (Or.inl rfl))
          (fun _ _ _ _ _ => pts_one (pt_not (pt_val (pe_call GI hr (by rfl) HI.g HI.F.kp HI.b .nil pass0 (pa_cons (pv 2) (pa_cons pe_int (pa_cons (pe_op op_sub (pe_ix (r := rIxT K) ix_tup (pv 0) pe_int (fun _ _ => rfl)) pe_int) pa_nil))))))) (fun _ _ _ _ _ => pv 2)) (pe_lst pa_nil) (nomark _))))) pss_never pss_nil)
      (pss_one (ps_if (pt_cmpR (op_neT (α := List Int) hr.units (by decide)) (pe_callB (cr_sortD (α := Int) hr.units) (by rfl) B.sorted bt_sorted (pa_cons (pv 1) pa_nil)) (pe_listRg rfl (by rfl) B.list (prg_1 (by rfl) B.range (pe_ix ix_tup (pv 0) pe_int (fun _ _ => rfl)))) (nomark _)) pss_never pss_nil)), ?_⟩
    have ol := O.len
    refine ⟨_, rfl, _, _, _, _, _, rfl, .ty "tuple", ty_tup hO.sq, kit_tt, _, rfl, iteF ?_⟩
    refine ⟨_, rfl, o, rfl, ⟨_, hO.sq⟩, fun D nD => ?_⟩
    refine lcW (K := K) walk_tup os (by rw [List.length_map]) (fun _ => false) (fun k : Int => k) nD (by rw [List.length_map]; omega) (fun H' e => ex_t e hO.sq) (fun i k z H' H'' Qy Qn hp e1 hY hy hn => ?_) (fun ys H1 e1 hD hys => ?_)
    · obtain ⟨rfl, hz⟩ := hY
      obtain ⟨k', hk', rfl⟩ := map_at hz
      rw [hp] at hk'
      cases hk'
      obtain ⟨k0, k1⟩ := O.lamp k (List.mem_of_getElem? hp)
      refine ⟨rfl, _, rfl, _, rfl, a, _, 0, _, rfl, rfl, ex_t e1 hS, rfl, n, 1, rfl, rfl, k, 0, n - 1, rfl, _, rfl, ?_⟩
      rw [decide_eq_true k0, decide_eq_true (show k ≤ n - 1 by omega)]
      exact iteF (hn rfl _ (Ex.refl _))
    · rw [filter_no] at hys
      have ey : ys = [] := dts_ints_inv hys
      subst ey
      refine ⟨Nat.zero_le _, fun L nL => ?_⟩
      have nDL : D ≠ L := ne_of_none hD nL
      have e2 : Ex H (upd H1 L (.lst [])) := e1.trans (Ex.new nL)
      refine ⟨[], [], dt_nil (SqL.of (by rw [upd_ne nDL]; exact hD)), dt_nil (SqL.of upd_same), _, rfl, iteF ?_⟩
      refine ⟨_, rfl, o, _, os, rfl, .inr (hO.ex e2).sq, dts_ints os, by omega, fun M zs nM hz => ?_⟩
      have e3 := e2.trans (Ex.new (o := .lst zs) nM)
      refine ⟨_, rfl, a, _, 0, _, rfl, rfl, ex_t e3 hS, rfl, n, rfl, RgOk.of_le (by omega) (by omega) (by omega) (by omega), fun R nR => ?_⟩
      rw [rgV_rng]
      refine ⟨srt os, rng n.toNat, dt_list (ex_l (Ex.new nR) (SqL.of upd_same)) (dts_ex ((Ex.new nM).trans (Ex.new nR)) hz), dt_list (SqL.of upd_same) (dts_ints _), _, rfl, ?_⟩
      rw [decide_eq_false (fun z => z (ord_sorted (by omega) O))]
      exact iteF (q _ (e3.trans (Ex.new nR)))
/-! ### need_few -/
def spNeedFew (K : PySem.W.Frag) : Sp := fun vs H Q _ => ∃ (v : V) (n : Int) (as : List Arr), vs = [v] ∧ DT K H v ((n, PySem.W.Tup.mk as) : WebD) ∧ n ≤ 4 ∧ Q .non H
theorem ok_needFew {f : Addr} {fd : FuncData} (F : Fun K "need_few" "need_few" sNeedFew f fd) (B : Blt mg) : FnOk P w K mg base CX0 1 f fd ["web"] (spNeedFew K) := by
  refine F.ok scNeedFew (fun vs H Q E h => ?_) (fun cdv A outer s H vs Q E hr h => ?_)
  · obtain ⟨v, n, as, rfl, _⟩ := h
    rfl
  · obtain ⟨v, n, as, rfl, hw, n4, q⟩ := h
    obtain ⟨a, t, vs, rfl, hS, _, _⟩ := web_inv hw
    obtain ⟨t6, h6⟩ := B.six
    refine ⟨_, pss_one (ps_if (pt_cmpR op_gt (pe_ix ix_tup (pv 0) pe_int (fun _ _ => rfl)) (pe_glob (v := .int 6) (by rfl) h6 ⟨_, rfl⟩) (nomark _)) pss_never pss_nil), ?_⟩
    refine ⟨_, rfl, a, _, 0, _, rfl, rfl, hS, rfl, n, 6, rfl, rfl, _, rfl, ?_⟩
    rw [decide_eq_false (show ¬ (6 : Int) < n by omega)]
    exact iteF q
end
end Kw

/-! ## KwF6 -/
set_option Elab.async false
set_option linter.all false
set_option maxRecDepth 100000
set_option maxHeartbeats 4000000
namespace Kw
open PySem PySem.Spec PyProof.Rows L2
open Evl (Ex ex_t ex_l fresh_back)
theorem flatMap_len {α β : Type} {f : α → List β} {c : Nat} : ∀ {l : List α}, (∀ x ∈ l, (f x).length ≤ c) → (l.flatMap f).length ≤ l.length * c
  | [], _ => Nat.zero_le _
  | x :: l, h => by
    have h1 := h x List.mem_cons_self
    have h2 := flatMap_len (l := l) fun y hy => h y (List.mem_cons_of_mem _ hy)
    rw [List.flatMap_cons, List.length_append, List.length_cons, Nat.succ_mul]
    omega
theorem rng_get {n j : Nat} (h : j < n) : (rng n)[j]? = some (j : Int) := by
  unfold rng
  rw [List.getElem?_map, List.getElem?_range h]
  rfl
/-- what one turn of the inner loop has made -/
def moreTo (n : Nat) (one : List Int) (j : Nat) : List (List Int) := (((rng n).take j).filter fun x => decide (x ∉ one)).map fun x => one ++ [x]
theorem moreTo_all (n : Nat) (one : List Int) : moreTo n one n = more n one := by
  unfold moreTo more
  rw [List.take_of_length_le (Nat.le_of_eq (rng_len n))]
theorem moreTo_len (n : Nat) (one : List Int) (j : Nat) : (moreTo n one j).length ≤ n := by
  unfold moreTo
  rw [List.length_map]
  refine Nat.le_trans (List.length_filter_le _ _) ?_
  rw [List.length_take, rng_len]
  omega
theorem moreTo_yes {n j : Nat} {one : List Int} (h : j < n) (hn : (j : Int) ∉ one) : moreTo n one (j + 1) = moreTo n one j ++ [one ++ [(j : Int)]] := by
  unfold moreTo
  rw [filter_take _ (rng_get h), if_pos (decide_eq_true hn), List.map_append]
  rfl
theorem moreTo_no {n j : Nat} {one : List Int} (h : j < n) (hn : ¬ (j : Int) ∉ one) : moreTo n one (j + 1) = moreTo n one j := by
  unfold moreTo
  rw [filter_take _ (rng_get h), if_neg (by rw [decide_eq_false hn]; exact Bool.false_ne_true)]
theorem flat_take {α β : Type} (f : α → List β) {l : List α} {i : Nat} {x : α} (h : l[i]? = some x) : (l.take (i + 1)).flatMap f = (l.take i).flatMap f ++ f x := by
  rw [List.take_add_one, h]
  show (l.take i ++ [x]).flatMap f = _
  rw [List.flatMap_append]
  show _ ++ (f x ++ []) = _
  rw [List.append_nil]
theorem POs.at {H : Hp} {vs : List V} {l : List (List Int)} (h : POs H vs l) {i : Nat} {v : V} (e : vs[i]? = some v) : ∃ os a, l[i]? = some os ∧ v = .ref a ∧ PT H a (os.map V.int) := by
  have hi : i < l.length := by
    rw [← h.1]
    exact (List.getElem?_eq_some_iff.mp e).1
  have e2 : l[i]? = some l[i] := List.getElem?_eq_getElem hi
  obtain ⟨a, ev, q⟩ := h.2 i v _ e e2
  exact ⟨_, a, e2, ev, q⟩
section
variable {P : Program} {w : World} {K : PySem.W.Frag} {mg : Str → Option Value} {base : Heap}
/-! ### all_orders -/
def spAllOrders : Sp := fun vs H Q _ => ∃ n : Int, vs = [.int n] ∧ 1 ≤ n ∧ n ≤ 4 ∧ ∀ p ws H', Ex H H' → H p = none → H' p = some (.lst ws) → POs H' ws (orders n.toNat n.toNat) → Q (.ref p) H'
theorem ok_allOrders {f : Addr} {fd : FuncData} (F : Fun K "all_orders" "all_orders" sAllOrders f fd) (B : Blt mg) : FnOk P w K mg base CX0 1 f fd ["many"] spAllOrders := by
  refine F.ok scAllOrders (fun vs H Q E h => ?_) (fun cdv A outer s H vs Q E hr h => ?_)
  · obtain ⟨n, rfl, _⟩ := h
    rfl
  · obtain ⟨n, rfl, n1, n4, q⟩ := h
    refine ⟨_, pss_cons (ps_set (i := 1) scAllOrders.nd rfl (Or.inl rfl) (pe_lst (pa_cons (pe_tupF pa_nil) pa_nil)))
      (pss_cons (ps_for PassesOwn.never rfl (pi_range1 (by rfl) B.range (pa_cons (pv 0) pa_nil)) (pg_name (i := 2) scAllOrders.nd rfl (Or.inl rfl))
        (pss_one (ps_setLc2 (i := 1) (own := [("one", 3), ("x", 4)]) (vs1 := [4]) (g := gName 3) (g1 := gName 4) (tt := tYes) rfl scAllOrders.nd rfl rfl (sw_true rfl rfl rfl (by decide +kernel)) (pi_list (pv 1))
          (blkOk_by (own := [("one", 3), ("x", 4)]) (N := ["many", "found", "k", "one", "x"]) (sc := defScope sAllOrders) (by decide +kernel)) (by decide)
          (fun _ _ _ _ _ => pg_name (i := 3) scAllOrders.nd rfl (Or.inl rfl)) (fun _ _ _ _ _ => pts_nil) (fun _ _ _ _ _ => pi_range1 (by rfl) B.range (pa_cons (pv 0) pa_nil)) (fun _ _ _ _ _ => pg_name (i := 4) scAllOrders.nd rfl (Or.inl rfl))
          (fun _ _ _ _ _ => pts_one (pt_cmpR (r := rNotInI K) (op_notInI hr.units) (pv 4) (pv 3) rfl)) (fun _ _ _ _ _ => pe_op op_catF (pv 3) (pe_tupF (pa_cons (pv 4) pa_nil))))))
      (pss_one (ps_ret (pv 1)))), ?_⟩
    refine ⟨Nat.zero_le _, fun u H1 e1 hu => ⟨(by show 1 ≤ sizeLine; decide), fun p0 np0 => ?_⟩⟩
    have nH0 : H p0 = none := fresh_back e1 np0
    refine ⟨_, rfl, n, rfl, by omega, by omega, ?_⟩
    refine for_it walk_range (fun k σ H' => Ex H H' ∧ ∃ y2 p ws, σ = [some (.int n), some (.ref p), y2, none, none] ∧ H p = none ∧ H' p = some (.lst ws) ∧ POs H' ws (orders n.toNat k))
      ⟨e1.trans (Ex.new np0), none, p0, _, rfl, nH0, upd_same, ?_⟩ (fun _ _ _ _ _ => trivial) (fun k x σ H' H'' hk hP hY => ?_) (fun σ H' hP => ?_)
    · refine ⟨rfl, fun i v os h1 h2 => ?_⟩
      have hi : i = 0 := by
        have := (List.getElem?_eq_some_iff.mp h1).1
        rw [List.length_singleton] at this
        omega
      subst hi
      have ev : V.ref u = v := Option.some.inj h1
      have eo : ([] : List Int) = os := Option.some.inj h2
      subst ev eo
      exact ⟨u, rfl, hu.ex (Ex.new np0)⟩
    · obtain ⟨e2, y2, p, ws, rfl, nHp, hp, hO⟩ := hP
      obtain ⟨rfl, rfl⟩ := hY
      have hl4 : n.toNat ≤ 4 := by omega
      obtain ⟨len24, lenk⟩ := orders_len hl4 (Nat.le_of_lt hk)
      refine ⟨_, rfl, p, rfl, ⟨_, SqL.of hp⟩, fun D nD => ?_⟩
      have nHD : H D = none := fresh_back e2 nD
      refine ⟨fun i m H1 => m = (orders n.toNat k).length - i ∧ i ≤ (orders n.toNat k).length ∧ Ex H'' H1 ∧ ∃ acc, H1 D = some (.lst acc) ∧ POs H1 acc (((orders n.toNat k).take i).flatMap (more n.toNat)),
        ⟨_, rfl, Nat.zero_le _, Ex.new nD, [], upd_same, rfl, fun i v os h1 _ => by simp at h1⟩, ?_⟩
      rintro i m H1 ⟨rfl, hi, e3, acc, hD, hacc⟩
      by_cases hlt : i < (orders n.toNat k).length
      · have hwi : i < ws.length := by
          rw [hO.1]
          exact hlt
        refine .inr ⟨⟨ws, ws[i], SqL.of (e3 _ _ hp), List.getElem?_eq_getElem hwi⟩, fun H2 => i + 1 ≤ (orders n.toNat k).length ∧ Ex H'' H2 ∧ ∃ acc, H2 D = some (.lst acc) ∧ POs H2 acc (((orders n.toNat k).take (i + 1)).flatMap (more n.toNat)),
          fun H2 hN => ⟨_, ?_, rfl, hN.1, hN.2⟩, fun x H2 hy => ?_⟩
        · omega
        · obtain ⟨rfl, hx⟩ := hy
          have hx' := hx ws (SqL.of (e3 _ _ hp))
          obtain ⟨one, a, ho, rfl, ha⟩ := (hO.ex e3).at hx'
          have l1 := lenk one (List.mem_of_getElem? ho)
          refine ⟨rfl, ?_⟩
          refine ⟨_, rfl, n, rfl, by omega, by omega, fun j m1 H3 => m1 = n.toNat - j ∧ j ≤ n.toNat ∧ Ex H'' H3 ∧ ∃ acc, H3 D = some (.lst acc) ∧ POs H3 acc (((orders n.toNat k).take i).flatMap (more n.toNat) ++ moreTo n.toNat one j),
            ⟨_, rfl, Nat.zero_le _, e3, acc, hD, by rw [show moreTo n.toNat one 0 = [] from rfl, List.append_nil]; exact hacc⟩, ?_⟩
          rintro j m1 H3 ⟨rfl, hj, e4, acc3, hD3, hacc3⟩
          by_cases hjl : j < n.toNat
          · refine .inr ⟨hjl, fun H5 => Ex H'' H5 ∧ ∃ acc, H5 D = some (.lst acc) ∧ POs H5 acc (((orders n.toNat k).take i).flatMap (more n.toNat) ++ moreTo n.toNat one (j + 1)), fun H5 hN => ⟨_, ?_, rfl, hjl, hN⟩, fun x H5 hy => ?_⟩
            · omega
            · obtain ⟨rfl, rfl⟩ := hy
              rw [Int.zero_add]
              have ha3 : PT H5 a (one.map V.int) := by
                obtain ⟨_, a', ho', ea, hh⟩ := (hO.ex e4).at hx'
                rw [ho] at ho'
                cases ho'
                cases ea
                exact hh
              refine ⟨rfl, _, rfl, _, rfl, (j : Int), a, one, rfl, rfl, ha3.sq, _, rfl, ite2 (fun c => ?_) (fun c => ?_)⟩
              · have c' : (j : Int) ∉ one := of_decide_eq_true c
                refine ⟨_, rfl, _, rfl, (by show 1 ≤ 1000; decide), fun b H6 e6 hb => ?_⟩
                refine ⟨a, b, one.map V.int, [V.int (j : Int)], rfl, rfl, ha3.ex e6, hb, (by simp), (by rw [List.length_map, l1]; show k + 1 ≤ 1000; omega), fun z H7 e7 hz => ?_⟩
                have e67 := e6.trans e7
                refine ⟨acc3, e67 _ _ hD3, ?_, (e4.trans e67).mut nD, acc3 ++ [.ref z], upd_same, ?_⟩
                · rw [hacc3.1, List.length_append, sizeLine_eq]
                  have h1 := flatMap_len (f := more n.toNat) (l := (orders n.toNat k).take i) fun x _ => more_len n.toNat x
                  have h2 := moreTo_len n.toNat one j
                  have h3 : ((orders n.toNat k).take i).length * n.toNat ≤ 24 * 4 := Nat.mul_le_mul (by rw [List.length_take]; omega) hl4
                  omega
                · rw [moreTo_yes hjl c', ← List.append_assoc]
                  refine ((hacc3.ex e67).snoc (a := z) (os := one ++ [(j : Int)]) ?_).updL (e67 _ _ hD3)
                  rw [List.map_append]
                  exact hz
              · have c' : ¬ (j : Int) ∉ one := fun z => c (decide_eq_true z)
                refine ⟨e4, acc3, hD3, ?_⟩
                rw [moreTo_no hjl c']
                exact hacc3
          · have ej : j = n.toNat := by omega
            subst ej
            refine .inl ⟨Nat.le_refl _, hlt, e4, acc3, hD3, ?_⟩
            rw [flat_take _ ho, ← moreTo_all]
            exact hacc3
      · have ei : i = (orders n.toNat k).length := by omega
        subst ei
        refine .inl ⟨⟨ws, SqL.of (e3 _ _ hp), Nat.le_of_eq hO.1⟩, ?_⟩
        refine ⟨e2.trans e3, _, D, acc, rfl, nHD, hD, ?_⟩
        rw [List.take_length] at hacc
        exact hacc
    · obtain ⟨e2, y2, p, ws, rfl, nHp, hp, hO⟩ := hP
      exact ⟨_, rfl, q p ws H' e2 nHp hp hO⟩
end
end Kw

/-! ## KwF7 -/
set_option Elab.async false
set_option linter.all false
set_option maxRecDepth 100000
set_option maxHeartbeats 4000000
namespace Kw
open PySem PySem.Spec PyProof.Rows L2
open Evl (Ex ex_t ex_l fresh_back)
/-- the defs that check, of the text -/
structure Chk (K : PySem.W.Frag) (mg : Str → Option Value) (fi fa fw fb fo : Addr) (fdi fda fdw fdb fdo : FuncData) : Prop where
  I : Has K mg "is_in" sIsIn ["value", "least", "most"] fi fdi
  A : Has K mg "is_arrow" sIsArrow ["value", "many"] fa fda
  W : Has K mg "need_web" sNeedWeb ["web"] fw fdw
  N : Has K mg "need_burning" sNeedBurning ["web", "burning"] fb fdb
  O : Has K mg "need_both" sNeedBoth ["web", "burning"] fo fdo
def formD (n : Int) (as : List Arr) (bs : List Int) : FormD := ((n, PySem.W.Tup.mk as), PySem.W.Tup.mk bs)
def leastM (n : Int) (as : List Arr) (bs : List Int) : FormD := match forms n as bs with
  | [] => formD n as bs
  | x :: l => PySem.W.minOf x l
theorem forms_ne {n : Int} {as : List Arr} {bs : List Int} (h1 : 1 ≤ n) (h4 : n ≤ 4) : ∃ x l, forms n as bs = x :: l ∧ leastM n as bs = PySem.W.minOf x l := by
  have h := (orders_fact h1 h4).2.1
  unfold leastM
  cases e : forms n as bs with
  | nil =>
    unfold forms at e
    exact absurd (List.map_eq_nil_iff.mp e) h
  | cons x l => exact ⟨x, l, rfl, rfl⟩
theorem not_forms {n n' : Int} {as as' : List Arr} {bs bs' : List Int} (h : n ≠ n') : formD n' as' bs' ∉ forms n as bs := by
  intro m
  unfold forms at m
  obtain ⟨os, _, e⟩ := List.mem_map.mp m
  exact h (congrArg (fun z : FormD => z.1.1) e)
theorem count_forms (n : Int) (as : List Arr) (bs : List Int) (z : FormD) : ((orders n.toNat n.toNat).filter fun os => decide (namedM n as bs os = z)).length = (forms n as bs).countP fun y => decide (y = z) := by
  unfold forms
  rw [List.countP_map, List.countP_eq_length_filter]
  rfl
theorem dt_form {K : PySem.W.Frag} {H : Hp} {a : Addr} {v u : V} {n : Int} {as : List Arr} {bs : List Int} (h : SqT K H a [v, u]) (hw : DT K H v ((n, PySem.W.Tup.mk as) : WebD)) (hb : DT K H u (PySem.W.Tup.mk bs : TupL Int)) : DT K H (.ref a) (formD n as bs) := dt_pair h hw hb
section
variable {P : Program} {w : World} {K : PySem.W.Frag} {mg : Str → Option Value} {base : Heap}
def spNeedBoth (K : PySem.W.Frag) : Sp := fun vs H Q _ => ∃ (v u : V) (n : Int) (as : List Arr) (bs : List Int), vs = [v, u] ∧ DT K H v ((n, PySem.W.Tup.mk as) : WebD) ∧ DT K H u (PySem.W.Tup.mk bs : TupL Int) ∧ WebOk n as ∧ BurnOk n bs ∧ ∀ H', Ex H H' → Q .non H'
theorem ok_both {fi fa fw fb fo : Addr} {fdi fda fdw fdb fdo : FuncData} (C : Chk K mg fi fa fw fb fo fdi fda fdw fdb fdo) (B : Blt mg) : FnOk P w K mg base CX0 4 fo fdo ["web", "burning"] (spNeedBoth K) := ok_needBoth C.O.F B C.I C.A C.W C.N
/-- a decision is the same by any road -/
theorem q_dec {Q : V → Hp → Prop} {H : Hp} {p : Prop} (i j : Decidable p) (h : Q (.bl (@decide p i)) H) : Q (.bl (@decide p j)) H := by
  have e : @decide p j = @decide p i := decide_eq_decide.mpr Iff.rfl
  rw [e]
  exact h
/-! ### renamed -/
def spRenamed (K : PySem.W.Frag) : Sp := fun vs H Q _ => ∃ (v u : V) (o : Addr) (n : Int) (as : List Arr) (bs os : List Int), vs = [v, u, .ref o] ∧ DT K H v ((n, PySem.W.Tup.mk as) : WebD) ∧ DT K H u (PySem.W.Tup.mk bs : TupL Int) ∧ PT H o (os.map V.int) ∧
  WebOk n as ∧ BurnOk n bs ∧ OrdOk n os ∧ ∀ z H', Ex H H' → DT K H' z (namedM n as bs os) → Q z H'
theorem ok_renamed {f fi fa fw fb fo fr fn : Addr} {fd fdi fda fdw fdb fdo fdr fdn : FuncData} (F : Fun K "renamed" "renamed" sRenamed f fd) (B : Blt mg) (C : Chk K mg fi fa fw fb fo fdi fda fdw fdb fdo)
    (HR : Has K mg "need_order" sNeedOrder ["web", "order"] fr fdr) (HN : Has K mg "named" sNamed ["web", "burning", "order"] fn fdn) : FnOk P w K mg base CX0 5 f fd ["web", "burning", "order"] (spRenamed K) := by
  have GB : FnOk P w K mg base CX0 4 fo fdo ["web", "burning"] (spNeedBoth K) := ok_both C B
  have GR : FnOk P w K mg base CX0 2 fr fdr ["web", "order"] (spNeedOrder K) := ok_needOrder HR.F B C.I
  have GN : FnOk P w K mg base CX0 1 fn fdn ["web", "burning", "order"] (spNamed K) := ok_named HN.F B
  refine F.ok scRenamed (fun vs H Q E h => ?_) (fun cdv A outer s H vs Q E hr h => ?_)
  · obtain ⟨v, u, o, n, as, bs, os, rfl, _⟩ := h
    rfl
  · obtain ⟨v, u, o, n, as, bs, os, rfl, hw, hb, hO, W, N, O, q⟩ := h
    refine ⟨_, pss_cons (ps_expr (pe_call GB hr (by rfl) C.O.g C.O.F.kp C.O.b .nil pass0 (pa_cons (pv 0) (pa_cons (pv 1) pa_nil))))
      (pss_cons (ps_expr (pe_call GR (hr.mono (by decide)) (by rfl) HR.g HR.F.kp HR.b .nil pass0 (pa_cons (pv 0) (pa_cons (pv 2) pa_nil))))
      (pss_one (ps_ret (pe_call GN (hr.mono (by decide)) (by rfl) HN.g HN.F.kp HN.b .nil pass0 (pa_cons (pv 0) (pa_cons (pv 1) (pa_cons (pv 2) pa_nil))))))), ?_⟩
    refine ⟨_, rfl, _, rfl, v, u, n, as, bs, rfl, hw, hb, W, N, fun H1 e1 => ?_⟩
    refine ⟨_, rfl, _, rfl, v, o, n, as, os, rfl, dt_ex e1 hw, hO.ex e1, O, W.n1, W.n4, fun H2 e2 => ?_⟩
    have e12 := e1.trans e2
    refine ⟨_, rfl, _, rfl, _, rfl, v, u, o, n, as, bs, os, rfl, dt_ex e12 hw, dt_ex e12 hb, hO.ex e12, fun p hp => ?_, fun b hb => O.has _ (N.lamp b hb).1 (N.lamp b hb).2, W.len, N.len, fun z H3 e3 hz => q z H3 (e12.trans e3) hz⟩
    obtain ⟨a1, a2, a3, a4, _⟩ := W.arr p hp
    exact ⟨O.has _ a1 a2, O.has _ a3 a4⟩
/-- the named web and standing, in a comprehension over all orders -/
theorem call_named {v u : V} {o : Addr} {n : Int} {as : List Arr} {bs os : List Int} {H : Hp} {Q : VK} {E : XK} (hw : DT K H v ((n, PySem.W.Tup.mk as) : WebD)) (hb : DT K H u (PySem.W.Tup.mk bs : TupL Int)) (hO : PT H o (os.map V.int)) (W : WebOk n as) (N : BurnOk n bs) (O : OrdOk n os)
    (q : ∀ z H', Ex H H' → DT K H' z (namedM n as bs os) → Q z H') : spNamed K [v, u, .ref o] H Q E :=
  ⟨v, u, o, n, as, bs, os, rfl, hw, hb, hO, fun p hp => ⟨O.has _ (W.arr p hp).1 (W.arr p hp).2.1, O.has _ (W.arr p hp).2.2.1 (W.arr p hp).2.2.2.1⟩, fun b hb => O.has _ (N.lamp b hb).1 (N.lamp b hb).2, W.len, N.len, q⟩
/-! ### renamings -/
def spRenamings (K : PySem.W.Frag) : Sp := fun vs H Q _ => ∃ (v u : V) (n : Int) (as : List Arr) (bs : List Int), vs = [v, u] ∧ DT K H v ((n, PySem.W.Tup.mk as) : WebD) ∧ DT K H u (PySem.W.Tup.mk bs : TupL Int) ∧ WebOk n as ∧ BurnOk n bs ∧
  ∀ H', Ex H H' → Q (.int (((forms n as bs).countP fun y => decide (y = formD n as bs) : Nat) : Int)) H'
theorem ok_renamings {f fi fa fw fb fo ff fl fn : Addr} {fd fdi fda fdw fdb fdo fdf fdl fdn : FuncData} (F : Fun K "renamings" "renamings" sRenamings f fd) (B : Blt mg) (C : Chk K mg fi fa fw fb fo fdi fda fdw fdb fdo)
    (HF : Has K mg "need_few" sNeedFew ["web"] ff fdf) (HL : Has K mg "all_orders" sAllOrders ["many"] fl fdl) (HN : Has K mg "named" sNamed ["web", "burning", "order"] fn fdn) : FnOk P w K mg base CX0 5 f fd ["web", "burning"] (spRenamings K) := by
  have GB : FnOk P w K mg base CX0 4 fo fdo ["web", "burning"] (spNeedBoth K) := ok_both C B
  have GF : FnOk P w K mg base CX0 1 ff fdf ["web"] (spNeedFew K) := ok_needFew HF.F B
  have GL : FnOk P w K mg base CX0 1 fl fdl ["many"] spAllOrders := ok_allOrders HL.F B
  have GN : FnOk P w K mg base CX0 1 fn fdn ["web", "burning", "order"] (spNamed K) := ok_named HN.F B
  refine F.ok scRenamings (fun vs H Q E h => ?_) (fun cdv A outer s H vs Q E hr h => ?_)
  · obtain ⟨v, u, n, as, bs, rfl, _⟩ := h
    rfl
  · obtain ⟨v, u, n, as, bs, rfl, hw, hb, W, N, q⟩ := h
    have hr1 : Room 1 _ := hr.mono (by decide)
    refine ⟨_, pss_cons (ps_expr (pe_call GB hr (by rfl) C.O.g C.O.F.kp C.O.b .nil pass0 (pa_cons (pv 0) (pa_cons (pv 1) pa_nil))))
      (pss_cons (ps_expr (pe_call GF hr1 (by rfl) HF.g HF.F.kp HF.b .nil pass0 (pa_cons (pv 0) pa_nil)))
      (pss_one (ps_ret (pe_callB call_len_seq (by rfl) B.len bt_len (pa_cons
        (pe_lc (own := [("order", 2)]) (g := gName 2) rfl scRenamings.nd (pi_list (pe_call GL hr1 (by rfl) HL.g HL.F.kp HL.b .nil pass0 (pa_cons (pe_ix ix_tup (pv 0) pe_int (fun _ _ => rfl)) pa_nil)))
          (blkOk_by (own := [("order", 2)]) (N := ["web", "burning", "order"]) (sc := defScope sRenamings) (by decide +kernel)) (fun _ _ _ _ _ => pg_name (i := 2) scRenamings.nd rfl (Or.inl rfl))
          (fun _ _ _ _ _ => pts_one (pt_cmpR (r := rEqT FormD K) (op_eqT (α := FormD) hr.units (by decide)) (pe_call GN hr1 (by rfl) HN.g HN.F.kp HN.b .nil pass0 (pa_cons (pv 0) (pa_cons (pv 1) (pa_cons (pv 2) pa_nil)))) (pe_tup (pa_cons (pv 0) (pa_cons (pv 1) pa_nil))) (nomark _)))
          (fun _ _ _ _ _ => pv 2)) pa_nil))))), ?_⟩
    refine ⟨_, rfl, _, rfl, v, u, n, as, bs, rfl, hw, hb, W, N, fun H1 e1 => ?_⟩
    refine ⟨_, rfl, v, n, as, rfl, dt_ex e1 hw, W.n4, ?_⟩
    obtain ⟨a, t, vs, rfl, hS, _, _⟩ := web_inv (dt_ex e1 hw)
    refine ⟨_, rfl, a, _, 0, _, rfl, rfl, hS, rfl, n, rfl, W.n1, W.n4, fun p ws H2 e2 np hp hO => ?_⟩
    obtain ⟨len24, hne, hok⟩ := orders_fact W.n1 W.n4
    refine ⟨p, rfl, ⟨_, SqL.of hp⟩, fun D nD => ?_⟩
    refine lcW (K := K) (g := gName 2) (walk_list (K := K) (a := p) (xs := ws)) (orders n.toNat n.toNat) hO.1.symm (fun os => decide (namedM n as bs os = formD n as bs)) (fun os => (PySem.W.Tup.mk os : TupL Int)) nD (by rw [hO.1]; omega) (fun H' e => ex_l e (SqL.of hp)) (fun i os z H' H'' Qy Qn ho e3 hY hy hn => ?_) (fun ys H3 e3 hD hys => ?_)
    · obtain ⟨rfl, hz⟩ := hY
      obtain ⟨os', b, ho', rfl, hb'⟩ := (hO.ex e3).at hz
      rw [ho] at ho'
      cases ho'
      have e13 := (e1.trans e2).trans e3
      refine ⟨rfl, _, rfl, _, rfl, _, rfl, call_named (E := E0) (dt_ex e13 hw) (dt_ex e13 hb) hb' W N (hok os (List.mem_of_getElem? ho)) fun z H4 e4 hz4 => ?_⟩
      have e14 := e13.trans e4
      refine ⟨_, rfl, _, rfl, (by show 2 ≤ sizeLine; decide), fun T nT => ?_⟩
      have e5 : Ex H4 (upd H4 T (.tup [.ref a, u])) := Ex.new nT
      refine ⟨_, formD n as bs, dt_ex e5 hz4, dt_form (SqT.of upd_same) (dt_ex (e14.trans e5) hw) (dt_ex (e14.trans e5) hb), _, rfl, ite2 (fun c => ?_) (fun c => ?_)⟩
      · exact ⟨_, rfl, hy c _ _ (e4.trans e5) (dt_tup (hb'.ex (e4.trans e5)).sq (dts_ints os))⟩
      · exact hn (Bool.eq_false_iff.mpr c) _ (e4.trans e5)
    · refine ⟨D, ys, rfl, .inl (SqL.of hD), ?_⟩
      rw [dts_len hys, List.length_map, count_forms]
      exact q _ ((e1.trans e2).trans e3)
/-! ### least_form -/
def spLeast (K : PySem.W.Frag) : Sp := fun vs H Q _ => ∃ (v u : V) (n : Int) (as : List Arr) (bs : List Int), vs = [v, u] ∧ DT K H v ((n, PySem.W.Tup.mk as) : WebD) ∧ DT K H u (PySem.W.Tup.mk bs : TupL Int) ∧ WebOk n as ∧ BurnOk n bs ∧
  ∀ z H', Ex H H' → DT K H' z (leastM n as bs) → Q z H'
theorem ok_least {f fi fa fw fb fo ff fl fn : Addr} {fd fdi fda fdw fdb fdo fdf fdl fdn : FuncData} (F : Fun K "least_form" "least_form" sLeastForm f fd) (B : Blt mg) (C : Chk K mg fi fa fw fb fo fdi fda fdw fdb fdo)
    (HF : Has K mg "need_few" sNeedFew ["web"] ff fdf) (HL : Has K mg "all_orders" sAllOrders ["many"] fl fdl) (HN : Has K mg "named" sNamed ["web", "burning", "order"] fn fdn) : FnOk P w K mg base CX0 5 f fd ["web", "burning"] (spLeast K) := by
  have GB : FnOk P w K mg base CX0 4 fo fdo ["web", "burning"] (spNeedBoth K) := ok_both C B
  have GF : FnOk P w K mg base CX0 1 ff fdf ["web"] (spNeedFew K) := ok_needFew HF.F B
  have GL : FnOk P w K mg base CX0 1 fl fdl ["many"] spAllOrders := ok_allOrders HL.F B
  have GN : FnOk P w K mg base CX0 1 fn fdn ["web", "burning", "order"] (spNamed K) := ok_named HN.F B
  refine F.ok scLeastForm (fun vs H Q E h => ?_) (fun cdv A outer s H vs Q E hr h => ?_)
  · obtain ⟨v, u, n, as, bs, rfl, _⟩ := h
    rfl
  · obtain ⟨v, u, n, as, bs, rfl, hw, hb, W, N, q⟩ := h
    have hr1 : Room 1 _ := hr.mono (by decide)
    refine ⟨_, pss_cons (ps_expr (pe_call GB hr (by rfl) C.O.g C.O.F.kp C.O.b .nil pass0 (pa_cons (pv 0) (pa_cons (pv 1) pa_nil))))
      (pss_cons (ps_expr (pe_call GF hr1 (by rfl) HF.g HF.F.kp HF.b .nil pass0 (pa_cons (pv 0) pa_nil)))
      (pss_one (ps_ret (pe_callB (cr_minT (α := FormD) rfl hr.units (by decide)) (by rfl) B.min bt_min (pa_cons
        (pe_lc (own := [("order", 2)]) (g := gName 2) (tt := tYes) rfl scLeastForm.nd (pi_list (pe_call GL hr1 (by rfl) HL.g HL.F.kp HL.b .nil pass0 (pa_cons (pe_ix ix_tup (pv 0) pe_int (fun _ _ => rfl)) pa_nil)))
          (blkOk_by (own := [("order", 2)]) (N := ["web", "burning", "order"]) (sc := defScope sLeastForm) (by decide +kernel)) (fun _ _ _ _ _ => pg_name (i := 2) scLeastForm.nd rfl (Or.inl rfl))
          (fun _ _ _ _ _ => pts_nil) (fun _ _ _ _ _ => pe_call GN hr1 (by rfl) HN.g HN.F.kp HN.b .nil pass0 (pa_cons (pv 0) (pa_cons (pv 1) (pa_cons (pv 2) pa_nil))))) pa_nil))))), ?_⟩
    refine ⟨_, rfl, _, rfl, v, u, n, as, bs, rfl, hw, hb, W, N, fun H1 e1 => ?_⟩
    refine ⟨_, rfl, v, n, as, rfl, dt_ex e1 hw, W.n4, ?_⟩
    obtain ⟨a, t, vs, rfl, hS, _, _⟩ := web_inv (dt_ex e1 hw)
    refine ⟨_, rfl, a, _, 0, _, rfl, rfl, hS, rfl, n, rfl, W.n1, W.n4, fun p ws H2 e2 np hp hO => ?_⟩
    obtain ⟨len24, hne, hok⟩ := orders_fact W.n1 W.n4
    refine ⟨p, rfl, ⟨_, SqL.of hp⟩, fun D nD => ?_⟩
    refine lcW (K := K) (g := gName 2) (walk_list (K := K) (a := p) (xs := ws)) (orders n.toNat n.toNat) hO.1.symm (fun _ => true) (namedM n as bs) nD (by rw [hO.1]; omega) (fun H' e => ex_l e (SqL.of hp)) (fun i os z H' H'' Qy Qn ho e3 hY hy hn => ?_) (fun ys H3 e3 hD hys => ?_)
    · obtain ⟨rfl, hz⟩ := hY
      obtain ⟨os', b, ho', rfl, hb'⟩ := (hO.ex e3).at hz
      rw [ho] at ho'
      cases ho'
      have e13 := (e1.trans e2).trans e3
      refine ⟨rfl, ?_⟩
      refine ⟨_, rfl, _, rfl, _, rfl, call_named (E := E0) (dt_ex e13 hw) (dt_ex e13 hb) hb' W N (hok os (List.mem_of_getElem? ho)) fun z H4 e4 hz4 => ?_⟩
      exact hy rfl _ _ e4 hz4
    · rw [filter_yes] at hys
      obtain ⟨x, l, ef, el⟩ := forms_ne (as := as) (bs := bs) W.n1 W.n4
      refine ⟨D, ys, x, l, rfl, SqL.of hD, ?_, fun z hz => q z _ ((e1.trans e2).trans e3) ?_⟩
      · rw [← ef]
        exact hys
      · rw [el]
        exact hz
/-! ### are_alike -/
def spAreAlike (K : PySem.W.Frag) : Sp := fun vs H Q _ => ∃ (v u v' u' : V) (n n' : Int) (as as' : List Arr) (bs bs' : List Int), vs = [v, u, v', u'] ∧ DT K H v ((n, PySem.W.Tup.mk as) : WebD) ∧ DT K H u (PySem.W.Tup.mk bs : TupL Int) ∧ DT K H v' ((n', PySem.W.Tup.mk as') : WebD) ∧ DT K H u' (PySem.W.Tup.mk bs' : TupL Int) ∧
  WebOk n as ∧ BurnOk n bs ∧ WebOk n' as' ∧ BurnOk n' bs' ∧ ∀ H', Ex H H' → Q (.bl (decide (formD n' as' bs' ∈ forms n as bs))) H'
theorem ok_areAlike {f fi fa fw fb fo ff fl fn : Addr} {fd fdi fda fdw fdb fdo fdf fdl fdn : FuncData} (F : Fun K "are_alike" "are_alike" sAreAlike f fd) (B : Blt mg) (C : Chk K mg fi fa fw fb fo fdi fda fdw fdb fdo)
    (HF : Has K mg "need_few" sNeedFew ["web"] ff fdf) (HL : Has K mg "all_orders" sAllOrders ["many"] fl fdl) (HN : Has K mg "named" sNamed ["web", "burning", "order"] fn fdn) : FnOk P w K mg base CX0 5 f fd ["web", "burning", "other_web", "other_burning"] (spAreAlike K) := by
  have GB : FnOk P w K mg base CX0 4 fo fdo ["web", "burning"] (spNeedBoth K) := ok_both C B
  have GW : FnOk P w K mg base CX0 3 fw fdw ["web"] (spNeedWeb K) := ok_needWeb C.W.F B C.I C.A
  have GU : FnOk P w K mg base CX0 2 fb fdb ["web", "burning"] (spNeedBurning K) := ok_needBurning C.N.F B C.I
  have GF : FnOk P w K mg base CX0 1 ff fdf ["web"] (spNeedFew K) := ok_needFew HF.F B
  have GL : FnOk P w K mg base CX0 1 fl fdl ["many"] spAllOrders := ok_allOrders HL.F B
  have GN : FnOk P w K mg base CX0 1 fn fdn ["web", "burning", "order"] (spNamed K) := ok_named HN.F B
  refine F.ok scAreAlike (fun vs H Q E h => ?_) (fun cdv A outer s H vs Q E hr h => ?_)
  · obtain ⟨v, u, v', u', n, n', as, as', bs, bs', rfl, _⟩ := h
    rfl
  · obtain ⟨v, u, v', u', n, n', as, as', bs, bs', rfl, hw, hb, hw', hb', W, N, W', N', q⟩ := h
    have hr1 : Room 1 _ := hr.mono (by decide)
    refine ⟨_, pss_cons (ps_expr (pe_call GB hr (by rfl) C.O.g C.O.F.kp C.O.b .nil pass0 (pa_cons (pv 0) (pa_cons (pv 1) pa_nil))))
      (pss_cons (ps_expr (pe_call GW (hr.mono (by decide)) (by rfl) C.W.g C.W.F.kp C.W.b .nil pass0 (pa_cons (pv 2) pa_nil)))
      (pss_cons (ps_expr (pe_call GU (hr.mono (by decide)) (by rfl) C.N.g C.N.F.kp C.N.b .nil pass0 (pa_cons (pv 2) (pa_cons (pv 3) pa_nil))))
      (pss_cons (ps_expr (pe_call GF hr1 (by rfl) HF.g HF.F.kp HF.b .nil pass0 (pa_cons (pv 0) pa_nil)))
      (pss_cons (ps_expr (pe_call GF hr1 (by rfl) HF.g HF.F.kp HF.b .nil pass0 (pa_cons (pv 2) pa_nil)))
      (pss_cons (ps_if (pt_cmpR op_ne (pe_ix ix_tup (pv 0) pe_int (fun _ _ => rfl)) (pe_ix ix_tup (pv 2) pe_int (fun _ _ => rfl)) (nomark _)) (pss_one (ps_ret pe_bl)) pss_nil)
      (pss_one (ps_ret (pe_cmpR (op_inT (α := FormD) hr.units (by decide)) (pe_tup (pa_cons (pv 2) (pa_cons (pv 3) pa_nil)))
        (pe_lc (own := [("order", 4)]) (g := gName 4) (tt := tYes) rfl scAreAlike.nd (pi_list (pe_call GL hr1 (by rfl) HL.g HL.F.kp HL.b .nil pass0 (pa_cons (pe_ix ix_tup (pv 0) pe_int (fun _ _ => rfl)) pa_nil)))
          (blkOk_by (own := [("order", 4)]) (N := ["web", "burning", "other_web", "other_burning", "order"]) (sc := defScope sAreAlike) (by decide +kernel)) (fun _ _ _ _ _ => pg_name (i := 4) scAreAlike.nd rfl (Or.inl rfl))
          (fun _ _ _ _ _ => pts_nil) (fun _ _ _ _ _ => pe_call GN hr1 (by rfl) HN.g HN.F.kp HN.b .nil pass0 (pa_cons (pv 0) (pa_cons (pv 1) (pa_cons (pv 4) pa_nil))))) rfl)))))))), ?_⟩
    refine ⟨_, rfl, _, rfl, v, u, n, as, bs, rfl, hw, hb, W, N, fun H1 e1 => ?_⟩
    refine ⟨_, rfl, v', n', as', rfl, dt_ex e1 hw', W', fun H2 e2 => ?_⟩
    have e12 := e1.trans e2
    refine ⟨_, rfl, _, rfl, v', u', n', as', bs', rfl, dt_ex e12 hw', dt_ex e12 hb', N', fun H3 e3 => ?_⟩
    have e13 := e12.trans e3
    refine ⟨_, rfl, v, n, as, rfl, dt_ex e13 hw, W.n4, _, rfl, v', n', as', rfl, dt_ex e13 hw', W'.n4, ?_⟩
    obtain ⟨a, t, vs, rfl, hS, _, _⟩ := web_inv (dt_ex e13 hw)
    obtain ⟨a', t', vs', rfl, hS', _, _⟩ := web_inv (dt_ex e13 hw')
    refine ⟨_, rfl, a, _, 0, _, rfl, rfl, hS, rfl, _, rfl, a', _, 0, _, rfl, rfl, hS', rfl, rfl, _, rfl, ite2 (fun c => ?_) (fun c => ?_)⟩
    · have cn : n ≠ n' := fun z => by
        rw [z, decide_eq_true rfl] at c
        exact absurd c (by decide)
      have q' := q H3 e13
      rw [decide_eq_false (not_forms cn)] at q'
      exact q'
    · refine ⟨_, rfl, _, rfl, (by show 2 ≤ sizeLine; decide), fun T nT => ?_⟩
      have e4 : Ex H3 (upd H3 T (.tup [.ref a', u'])) := Ex.new nT
      have e14 := e13.trans e4
      have hF : DT K (upd H3 T (.tup [.ref a', u'])) (.ref T) (formD n' as' bs') := dt_form (SqT.of upd_same) (dt_ex e14 hw') (dt_ex e14 hb')
      refine ⟨_, rfl, a, _, 0, _, rfl, rfl, ex_t e4 hS, rfl, n, rfl, W.n1, W.n4, fun p ws H5 e5 np hp hO => ?_⟩
      obtain ⟨len24, hne, hok⟩ := orders_fact W.n1 W.n4
      have e15 := e14.trans e5
      refine ⟨p, rfl, ⟨_, SqL.of hp⟩, fun D nD => ?_⟩
      refine lcW (K := K) (g := gName 4) (walk_list (K := K) (a := p) (xs := ws)) (orders n.toNat n.toNat) hO.1.symm (fun _ => true) (namedM n as bs) nD (by rw [hO.1]; omega) (fun H' e => ex_l e (SqL.of hp)) (fun i os z H' H'' Qy Qn ho e6 hY hy hn => ?_) (fun ys H6 e6 hD hys => ?_)
      · obtain ⟨rfl, hz⟩ := hY
        obtain ⟨os', b, ho', rfl, hbb⟩ := (hO.ex e6).at hz
        rw [ho] at ho'
        cases ho'
        have e16 := e15.trans e6
        refine ⟨rfl, ?_⟩
        refine ⟨_, rfl, _, rfl, _, rfl, call_named (E := E0) (dt_ex e16 hw) (dt_ex e16 hb) hbb W N (hok os (List.mem_of_getElem? ho)) fun z H4 e4 hz4 => ?_⟩
        exact hy rfl _ _ e4 hz4
      · rw [filter_yes] at hys
        exact ⟨_, forms n as bs, D, ys, rfl, SqL.of hD, hys, dt_ex (e5.trans e6) hF, q_dec _ _ (q _ (e15.trans e6))⟩
end
end Kw

/-! ## KwG1 -/
set_option Elab.async false
set_option linter.all false
set_option maxRecDepth 100000
set_option maxHeartbeats 4000000
namespace Kw
open PySem PySem.Spec PyProof.Rows L2
open Evl (Ex ex_t ex_l fresh_back)
/-- data of ints, truth values and tuples, less than k deep -/
inductive OkD : Nat → PyData → Prop
  | int {k : Nat} (i : Int) : OkD (k + 1) (.int i)
  | bool {k : Nat} (b : Bool) : OkD (k + 1) (.bool b)
  | tup {k : Nat} {ds : List PyData} : ds.length ≤ 1000 → (∀ d ∈ ds, OkD k d) → OkD (k + 1) (.tuple ds)
theorem OkD.no {d : PyData} (h : OkD 0 d) : False := nomatch h
section
variable {K : PySem.W.Frag} {H H' : Hp}
theorem dpAll_len : ∀ {vs : List V} {ds : List PyData}, DpAll K H vs ds → vs.length = ds.length
  | _, _, .nil => rfl
  | _, _, .cons _ h => by rw [List.length_cons, List.length_cons, dpAll_len h]
theorem dpAll_at : ∀ {vs : List V} {ds : List PyData}, DpAll K H vs ds → ∀ {i : Nat} {v : V}, vs[i]? = some v → ∃ d, ds[i]? = some d ∧ Dp K H v d
  | _, _, .nil, i, v, e => by simp at e
  | _, _, .cons h _, 0, v, e => ⟨_, rfl, by
    have e' := Option.some.inj e
    rw [← e']
    exact h⟩
  | _, _, .cons _ h, i + 1, v, e => by
    obtain ⟨d, h1, h2⟩ := dpAll_at h (i := i) (v := v) (by simpa using e)
    exact ⟨d, by simpa using h1, h2⟩
theorem dpAll_map : ∀ {vs : List V} {ds : List PyData}, (∀ d ∈ ds, ∀ v, Dp K H v d → Dp K H' v d) → DpAll K H vs ds → DpAll K H' vs ds
  | _, _, _, .nil => .nil
  | _, _, k, .cons h t => .cons (k _ List.mem_cons_self _ h) (dpAll_map (fun d hd => k d (List.mem_cons_of_mem _ hd)) t)
theorem okd_ex (e : Ex H H') {k : Nat} {d : PyData} (o : OkD k d) : ∀ v : V, Dp K H v d → Dp K H' v d := by
  induction o with
  | int i =>
    intro v h
    cases h
    exact .int i
  | bool b =>
    intro v h
    cases h
    exact .bl b
  | tup _ _ ih =>
    intro v h
    cases h with
    | tup hs ha => exact .tup (ex_t e hs) (dpAll_map ih ha)
end
theorem kits_t {K : PySem.W.Frag} : PySem.W.kitAny K (.type "tuple") [.type "tuple", .type "list"] = some true := kitAny_cons kit_tt (fun z => nomatch z) fun _ => rfl
theorem kits_i {K : PySem.W.Frag} : PySem.W.kitAny K (.type "int") [.type "tuple", .type "list"] = some false := kitAny_cons kit_it (fun _ => kitAny_cons kit_il (fun _ => kitAny_nil) fun z => nomatch z) fun z => nomatch z
theorem kits_b {K : PySem.W.Frag} : PySem.W.kitAny K (.type "bool") [.type "tuple", .type "list"] = some false := kitAny_cons kit_bt (fun _ => kitAny_cons kit_bl (fun _ => kitAny_nil) fun z => nomatch z) fun z => nomatch z
theorem cls_tl : Paired ClsV [V.ty "tuple", V.ty "list"] [Value.type "tuple", Value.type "list"] := .cons (.ty _) (.cons (.ty _) .nil)
section
variable {P : Program} {w : World} {K : PySem.W.Frag} {mg : Str → Option Value} {base : Heap}
/-! ### _law_alike -/
def spAlike (K : PySem.W.Frag) (k : Nat) : Sp := fun vs H Q _ => ∃ (x y : V) (d : PyData), vs = [x, y] ∧ OkD k d ∧ Dp K H x d ∧ Dp K H y d ∧ ∀ H', Ex H H' → Q (.bl true) H'
theorem ok_alike {f : Addr} {fd : FuncData} (HA : Has K mg "_law_alike" sAlike ["_law_found", "_law_due"] f fd) (B : Blt mg) : ∀ k, FnOk P w K mg base CX0 k f fd ["_law_found", "_law_due"] (spAlike K k)
  | 0 => ⟨fun vs H Q E h => by
      obtain ⟨x, y, d, _, o, _⟩ := h
      exact o.no.elim, fun A outer s H args us vs Q E _ _ _ _ h => by
      obtain ⟨x, y, d, _, o, _⟩ := h
      exact o.no.elim⟩
  | k + 1 => by
    have IH := ok_alike HA B k
    refine HA.F.ok scAlike (fun vs H Q E h => ?_) (fun cdv A outer s H vs Q E hr h => ?_)
    · obtain ⟨x, y, d, rfl, _⟩ := h
      rfl
    · obtain ⟨x, y, d, rfl, o, hx, hy, q⟩ := h
      refine ⟨_, pss_cons (ps_if (pt_val (pe_callB call_isiT (by rfl) B.isi bt_isi (pa_cons (pv 1) (pa_cons (pe_tup (pa_cons (pe_bltn (v := .ty "tuple") (by rfl) B.tuple bt_tuple rfl) (pa_cons (pe_bltn (v := .ty "list") (by rfl) B.list bt_list rfl) pa_nil))) pa_nil))))
          (pss_cons (ps_if (PW.pt (pw_or (pt_not (pt_val (pe_callB call_isiT (by rfl) B.isi bt_isi (pa_cons (pv 0) (pa_cons (pe_tup (pa_cons (pe_bltn (v := .ty "tuple") (by rfl) B.tuple bt_tuple rfl) (pa_cons (pe_bltn (v := .ty "list") (by rfl) B.list bt_list rfl) pa_nil))) pa_nil)))))
              (pw_or1 (pt_cmpR op_ne (pe_callB call_isi (by rfl) B.isi bt_isi (pa_cons (pv 0) (pa_cons (pe_bltn (v := .ty "list") (by rfl) B.list bt_list rfl) pa_nil))) (pe_callB call_isi (by rfl) B.isi bt_isi (pa_cons (pv 1) (pa_cons (pe_bltn (v := .ty "list") (by rfl) B.list bt_list rfl) pa_nil))) (nomark _)))))
              (pss_one (ps_ret pe_bl)) pss_nil)
          (pss_cons (ps_if (pt_cmpR op_ne (pe_callB call_len_seq (by rfl) B.len bt_len (pa_cons (pv 0) pa_nil)) (pe_callB call_len_seq (by rfl) B.len bt_len (pa_cons (pv 1) pa_nil)) (nomark _)) (pss_one (ps_ret pe_bl)) pss_nil)
          (pss_one (ps_ret (pe_cmpR (op_eqT (α := List Int) hr.units (by decide))
            (pe_lc (own := [("_law_k", 2)]) (g := gName 2) rfl scAlike.nd (pi_range1 (by rfl) B.range (pa_cons (pe_callB call_len_seq (by rfl) B.len bt_len (pa_cons (pv 1) pa_nil)) pa_nil)) (blkOk_by (own := [("_law_k", 2)]) (N := ["_law_found", "_law_due", "_law_k"]) (sc := defScope sAlike) (by decide +kernel))
              (fun _ _ _ _ _ => pg_name (i := 2) scAlike.nd rfl (Or.inl rfl))
              (fun _ _ _ _ _ => pts_one (pt_not (pt_val (pe_call IH hr (by rfl) HA.g HA.F.kp HA.b .nil pass0 (pa_cons (pe_ix (r := rIxT K) ix_tup (pv 0) (pv 2) (fun _ _ => rfl)) (pa_cons (pe_ix (r := rIxT K) ix_tup (pv 1) (pv 2) (fun _ _ => rfl)) pa_nil))))))
              (fun _ _ _ _ _ => pv 2)) (pe_lst pa_nil) (nomark _)))))) pss_nil)
        (pss_cons (ps_if (PW.pt (pw_or (pt_cmpR op_isN (pv 1) pe_non (nomark _)) (pw_or1 (pt_val (pe_callB call_isi (by rfl) B.isi bt_isi (pa_cons (pv 1) (pa_cons (pe_bltn (v := .ty "str") (by rfl) B.str bt_str rfl) pa_nil))))))) pss_never pss_nil)
        (pss_one (ps_ret (pe_and (pe_callB call_isi (by rfl) B.isi bt_isi (pa_cons (pv 0) (pa_cons (pe_bltn (v := .ty "int") (by rfl) B.int bt_int rfl) pa_nil)))
          (pe_and (pe_cmpR op_eq (pe_callB call_isi (by rfl) B.isi bt_isi (pa_cons (pv 0) (pa_cons (pe_bltn (v := .ty "bool") (by rfl) B.bool bt_bool rfl) pa_nil))) (pe_callB call_isi (by rfl) B.isi bt_isi (pa_cons (pv 1) (pa_cons (pe_bltn (v := .ty "bool") (by rfl) B.bool bt_bool rfl) pa_nil))) (nomark _))
            (pe_one (pe_cmpR op_eq (pv 0) (pv 1) (nomark _)))))))), ?_⟩
      cases o with
      | int i =>
        cases hx
        cases hy
        refine ⟨_, rfl, (by show 2 ≤ sizeLine; decide), fun T nT => ⟨_, T, _, _, _, _, rfl, upd_same, cls_tl, .base (.int i), kits_i, _, rfl, iteF ?_⟩⟩
        refine ⟨_, rfl, rfl, _, rfl, iteF ?_⟩
        refine ⟨_, rfl, _, _, _, _, _, rfl, .ty "str", .base (.int i), kit_is, _, rfl, iteF ?_⟩
        refine ⟨_, rfl, _, _, _, _, _, rfl, .ty "int", .base (.int i), kit_ii, _, rfl, iteT ?_⟩
        refine ⟨_, rfl, _, _, _, _, _, rfl, .ty "bool", .base (.int i), kit_ib, _, rfl, _, _, _, _, _, rfl, .ty "bool", .base (.int i), kit_ib, rfl, _, rfl, iteT ?_⟩
        refine ⟨_, rfl, _, rfl, rfl, ?_⟩
        rw [decide_eq_true rfl]
        exact q _ (Ex.new nT)
      | bool b =>
        cases hx
        cases hy
        refine ⟨_, rfl, (by show 2 ≤ sizeLine; decide), fun T nT => ⟨_, T, _, _, _, _, rfl, upd_same, cls_tl, .base (.bl b), kits_b, _, rfl, iteF ?_⟩⟩
        refine ⟨_, rfl, rfl, _, rfl, iteF ?_⟩
        refine ⟨_, rfl, _, _, _, _, _, rfl, .ty "str", .base (.bl b), kit_bs, _, rfl, iteF ?_⟩
        refine ⟨_, rfl, _, _, _, _, _, rfl, .ty "int", .base (.bl b), kit_bi, _, rfl, iteT ?_⟩
        refine ⟨_, rfl, _, _, _, _, _, rfl, .ty "bool", .base (.bl b), kit_bb, _, rfl, _, _, _, _, _, rfl, .ty "bool", .base (.bl b), kit_bb, rfl, _, rfl, iteT ?_⟩
        refine ⟨_, rfl, _, rfl, rfl, ?_⟩
        rw [decide_eq_true rfl]
        exact q _ (Ex.new nT)
      | @tup _ ds ol od =>
        cases hx with
        | @tup a xs _ hs ha =>
          cases hy with
          | @tup a' ys _ hs' ha' =>
            refine ⟨_, rfl, (by show 2 ≤ sizeLine; decide), fun T nT => ⟨_, T, _, _, _, _, rfl, upd_same, cls_tl, ty_tup (ex_t (Ex.new nT) hs'), kits_t, _, rfl, iteT ?_⟩⟩
            have e1 : Ex H (upd H T (.tup [V.ty "tuple", V.ty "list"])) := Ex.new nT
            refine ⟨_, rfl, (by show 2 ≤ sizeLine; decide), fun T2 nT2 => ⟨_, T2, _, _, _, _, rfl, upd_same, cls_tl, ty_tup (ex_t (e1.trans (Ex.new nT2)) hs), kits_t, _, rfl, iteF ?_⟩⟩
            have e2 := e1.trans (Ex.new (o := .tup [V.ty "tuple", V.ty "list"]) nT2)
            refine ⟨_, rfl, _, _, _, _, _, rfl, .ty "list", ty_tup (ex_t e2 hs), kit_tl, _, rfl, _, _, _, _, _, rfl, .ty "list", ty_tup (ex_t e2 hs'), kit_tl, rfl, _, rfl, iteF ?_⟩
            have lx := dpAll_len ha
            have ly := dpAll_len ha'
            refine ⟨_, rfl, a, xs, rfl, .inr (ex_t e2 hs), _, rfl, a', ys, rfl, .inr (ex_t e2 hs'), rfl, _, rfl, ?_⟩
            rw [lx, ly, decide_eq_true rfl]
            refine iteF ?_
            refine ⟨_, rfl, a', ys, rfl, .inr (ex_t e2 hs'), _, rfl, by omega, by omega, fun D nD => ?_⟩
            refine lcW (K := K) (g := gName 2) (walk_range (lo := 0) (n := ys.length)) (List.range ys.length) List.length_range (fun _ => false) (fun i : Nat => (i : Int)) nD (by omega) (fun _ _ => trivial) (fun i j z H' H'' Qy Qn hj e3 hY hyy hn => ?_) (fun us H3 e3 hD hys => ?_)
            · obtain ⟨rfl, rfl⟩ := hY
              have hi : i < ys.length := by
                have := (List.getElem?_eq_some_iff.mp hj).1
                rw [List.length_range] at this
                exact this
              have hix : i < xs.length := by omega
              have e23 := e2.trans e3
              obtain ⟨d1, g1, h1⟩ := dpAll_at ha (List.getElem?_eq_getElem hix)
              obtain ⟨d2, g2, h2⟩ := dpAll_at ha' (List.getElem?_eq_getElem hi)
              rw [g1] at g2
              cases g2
              have o1 := od d1 (List.mem_of_getElem? g1)
              refine ⟨rfl, _, rfl, _, rfl, a, xs, 0 + (i : Int), _, rfl, rfl, ex_t e23 hs, at_of (by omega) (List.getElem?_eq_getElem hix), _, rfl, _, rfl, a', ys, 0 + (i : Int), _, rfl, rfl, ex_t e23 hs', at_of (by omega) (List.getElem?_eq_getElem hi), ?_⟩
              exact ⟨_, _, d1, rfl, o1, okd_ex e23 o1 _ h1, okd_ex e23 o1 _ h2, fun H4 e4 => ⟨_, rfl, iteF (hn rfl _ e4)⟩⟩
            · rw [filter_no] at hys
              have ey : us = [] := dts_ints_inv hys
              subst ey
              refine ⟨Nat.zero_le _, fun L nL => ?_⟩
              have nDL : D ≠ L := ne_of_none hD nL
              refine ⟨[], [], dt_nil (SqL.of (by rw [upd_ne nDL]; exact hD)), dt_nil (SqL.of upd_same), ?_⟩
              rw [decide_eq_true rfl]
              exact q _ ((e2.trans e3).trans (Ex.new nL))
end
end Kw

/-! ## KwG2 -/
set_option Elab.async false
set_option linter.all false
set_option maxRecDepth 100000
set_option maxHeartbeats 4000000
namespace Kw
open PySem PySem.Spec PyProof.Rows L2
open Evl (Ex ex_t ex_l fresh_back)
section
variable {K : PySem.W.Frag} {H : Hp}
/-- pairs of ints, as the pairs of a dict -/
theorem pairs_kv : ∀ {vs : List V} {l : List Arr}, DTs K H vs l → ∃ ps : List Addr, vs = ps.map V.ref ∧ Paired (fun (p : Addr) (kv : Key × V) => SqT K H p [kV kv.1, kv.2]) ps (l.map fun q => ((Sum.inl q.1 : Key), V.int q.2))
  | [], [], _ => ⟨[], rfl, .nil⟩
  | [], _ :: _, h => absurd (dts_len h) (by simp)
  | _ :: _, [], h => absurd (dts_len h) (by simp)
  | v :: vs, q :: l, h => by
    obtain ⟨h1, h2⟩ := dts_inv h
    obtain ⟨a, x, y, e, hs, hx, hy⟩ := dt_pair_inv h1
    have ex := dt_int_inv hx
    have ey := dt_int_inv hy
    subst e ex ey
    obtain ⟨ps, e2, hp⟩ := pairs_kv h2
    subst e2
    exact ⟨a :: ps, rfl, .cons hs hp⟩
end
theorem names_eq (os : List Int) : ((List.range os.length).map fun i : Nat => ((os.getD i 0, (i : Int)) : Arr)).map (fun q : Arr => ((Sum.inl q.1 : Key), V.int q.2)) = namesD os := by
  unfold namesD
  rw [List.map_map]
  rfl
theorem dget {H : Hp} {d : Addr} {os : List Int} {k : Int} (h : H d = some (.dK (mergeK [] (namesD os)))) (hk : k ∈ os) (hn : os.Nodup) : DGet H d (.int k) (some (.int (idx os k))) := by
  rw [← names_get hk hn]
  exact DGet.k (k := Sum.inl k) h
section
variable {P : Program} {w : World} {K : PySem.W.Frag} {mg : Str → Option Value} {base : Heap}
/-! ### _law_named -/
theorem ok_lnamed {f : Addr} {fd : FuncData} (F : Fun K "_law_named" "_law_named" sLNamed f fd) (B : Blt mg) : FnOk P w K mg base CX0 1 f fd ["_law_web_here", "_law_burning_here", "_law_order"]
    (fun vs H Q _ => ∃ (v u : V) (o : Addr) (n : Int) (as : List Arr) (bs os : List Int), vs = [v, u, .ref o] ∧ DT K H v ((n, PySem.W.Tup.mk as) : WebD) ∧ DT K H u (PySem.W.Tup.mk bs : TupL Int) ∧ PT H o (os.map V.int) ∧
      WebOk n as ∧ BurnOk n bs ∧ OrdOk n os ∧ ∀ z H', Ex H H' → DT K H' z (namedM n as bs os) → Q z H') := by
  refine F.ok scLNamed (fun vs H Q E h => ?_) (fun cdv A outer s H vs Q E hr h => ?_)
  · obtain ⟨v, u, o, n, as, bs, os, rfl, _⟩ := h
    rfl
  · obtain ⟨v, u, o, n, as, bs, os, rfl, hw, hb, hO, W, N, O, q⟩ := h
    obtain ⟨a, t, vs, rfl, hS, hT, hs⟩ := web_inv hw
    obtain ⟨b, rfl, hB⟩ := burn_inv hb
    refine ⟨_, pss_cons (ps_set (i := 3) scLNamed.nd rfl (Or.inr rfl) (pe_callTy (call_dictP rfl) (by rfl) B.dict bt_dict (pa_cons
        (pe_lc (own := [("_law_k", 4)]) (g := gName 4) (tt := tYes) rfl scLNamed.nd (pi_range1 (by rfl) B.range (pa_cons (pe_ix ix_tup (pv 0) pe_int (fun _ _ => rfl)) pa_nil))
          (blkOk_by (own := [("_law_k", 4)]) (N := ["_law_web_here", "_law_burning_here", "_law_order", "_law_names", "_law_k", "_law_a", "_law_b"]) (sc := defScope sLNamed) (by decide +kernel))
          (fun _ _ _ _ _ => pg_name (i := 4) scLNamed.nd rfl (Or.inl rfl)) (fun _ _ _ _ _ => pts_nil)
          (fun _ _ _ _ _ => pe_tup (pa_cons (pe_ix (r := rIxT K) ix_tup (pv 2) (pv 4) (fun _ _ => rfl)) (pa_cons (pv 4) pa_nil)))) pa_nil)))
      (pss_one (ps_ret (pe_tup (pa_cons (pe_tup (pa_cons (pe_ix ix_tup (pv 0) pe_int (fun _ _ => rfl)) (pa_cons (pe_callTy call_tuple_of (by rfl) B.tuple bt_tuple (pa_cons
          (pe_callB (cr_sortD (α := Arr) hr.units) (by rfl) B.sorted bt_sorted (pa_cons
            (pe_lc (own := [("_law_a", 5), ("_law_b", 6)]) (g := gTup K 2 (gCons (gName 5) (gCons (gName 6) gNil))) (tt := tYes) rfl scLNamed.nd (pi_tup (pe_ix ix_tup (pv 0) pe_int (fun _ _ => rfl)))
              (blkOk_by (own := [("_law_a", 5), ("_law_b", 6)]) (N := ["_law_web_here", "_law_burning_here", "_law_order", "_law_names", "_law_k", "_law_a", "_law_b"]) (sc := defScope sLNamed) (by decide +kernel))
              (fun _ _ _ _ _ => pg_tup rfl (pgs_cons (pg_name (i := 5) scLNamed.nd rfl (Or.inl rfl)) (pgs_cons (pg_name (i := 6) scLNamed.nd rfl (Or.inl rfl)) pgs_nil))) (fun _ _ _ _ _ => pts_nil)
              (fun _ _ _ _ _ => pe_tup (pa_cons (pe_dget (hu_of hr) (pv 3) (pv 5) (fun _ _ => rfl)) (pa_cons (pe_dget (hu_of hr) (pv 3) (pv 6) (fun _ _ => rfl)) pa_nil)))) pa_nil)) pa_nil)) pa_nil)))
        (pa_cons (pe_callTy call_tuple_of (by rfl) B.tuple bt_tuple (pa_cons (pe_callB (cr_sortD (α := Int) hr.units) (by rfl) B.sorted bt_sorted (pa_cons
          (pe_lc (own := [("_law_k", 4)]) (g := gName 4) (tt := tYes) rfl scLNamed.nd (pi_tup (pv 1))
            (blkOk_by (own := [("_law_k", 4)]) (N := ["_law_web_here", "_law_burning_here", "_law_order", "_law_names", "_law_k", "_law_a", "_law_b"]) (sc := defScope sLNamed) (by decide +kernel))
            (fun _ _ _ _ _ => pg_name (i := 4) scLNamed.nd rfl (Or.inl rfl)) (fun _ _ _ _ _ => pts_nil) (fun _ _ _ _ _ => pe_dget (hu_of hr) (pv 3) (pv 4) (fun _ _ => rfl))) pa_nil)) pa_nil)) pa_nil))))), ?_⟩
    have lv := dts_len hs
    have n1 := W.n1
    have n4 := W.n4
    have la := W.len
    have lb := N.len
    have ol : os.length = n.toNat := O.len
    refine ⟨_, rfl, a, _, 0, _, rfl, rfl, hS, rfl, n, rfl, by omega, by omega, fun D0 nD0 => ?_⟩
    refine lcW (K := K) (g := gName 4) (walk_range (lo := 0) (n := n.toNat)) (List.range os.length) (by rw [List.length_range, ol]) (fun _ => true) (fun i : Nat => ((os.getD i 0, (i : Int)) : Arr)) nD0 (by omega) (fun _ _ => trivial) (fun i j z H' H'' Qy Qn hj e1 hY hy hn => ?_) (fun ys H1 e1 hD0 hys => ?_)
    · obtain ⟨rfl, rfl⟩ := hY
      have hi : i < os.length := by
        have := (List.getElem?_eq_some_iff.mp hj).1
        rw [List.length_range] at this
        exact this
      have ej : i = j := by
        rw [List.getElem?_range hi] at hj
        exact Option.some.inj hj
      subst ej
      have hg : os[i]? = some (os.getD i 0) := by
        rw [List.getD_eq_getElem?_getD, List.getElem?_eq_getElem hi]
        rfl
      refine ⟨rfl, ?_⟩
      refine ⟨_, rfl, _, rfl, o, _, 0 + (i : Int), _, rfl, rfl, (hO.ex e1).sq, at_of (by omega) (map_at' hg), _, rfl, (by show 2 ≤ sizeLine; decide), fun T nT => ?_⟩
      refine hy rfl _ _ (Ex.new nT) (dt_pair (SqT.of upd_same) (dt_int _) ?_)
      show DT K _ (V.int (0 + (i : Int))) (i : Int)
      rw [Int.zero_add]
      exact dt_int _
    · rw [filter_yes] at hys
      obtain ⟨ps, eps, hps⟩ := pairs_kv hys
      subst eps
      rw [names_eq] at hps
      refine ⟨D0, ps, namesD os, rfl, SqL.of hD0, hps, fun d nd => ?_⟩
      have e2 : Ex H (upd H1 d (.dK (mergeK [] (namesD os)))) := e1.trans (Ex.new nd)
      have hd : (upd H1 d (.dK (mergeK [] (namesD os)))) d = some (.dK (mergeK [] (namesD os))) := upd_same
      revert e2 hd
      generalize upd H1 d (.dK (mergeK [] (namesD os))) = H2
      intro e2 hd
      refine ⟨_, rfl, a, _, 0, _, rfl, rfl, ex_t e2 hS, rfl, _, rfl, a, _, 1, _, rfl, rfl, ex_t e2 hS, rfl, t, rfl, ⟨_, ex_t e2 hT⟩, fun D nD => ?_⟩
      refine lcW (K := K) walk_tup as lv.symm (fun _ => true) (fun p : Arr => ((idx os p.1, idx os p.2) : Arr)) nD (by omega) (fun H' e => ex_t (e2.trans e) hT) (fun i p z H' H'' Qy Qn hp e3 hY hy hn => ?_) (fun ys H3 e3 hD hys => ?_)
      · obtain ⟨rfl, hz⟩ := hY
        obtain ⟨p', hp', hdd⟩ := dts_get (dts_ex (e2.trans e3) hs) hz
        rw [hp] at hp'
        cases hp'
        obtain ⟨c, x, y, rfl, hc, hx, hy'⟩ := dt_pair_inv hdd
        have ex := dt_int_inv hx
        have ey := dt_int_inv hy'
        subst ex ey
        obtain ⟨a1, a2, a3, a4, _⟩ := W.arr p (List.mem_of_getElem? hp)
        refine ⟨c, _, rfl, hc, rfl, _, _, rfl, _, _, rfl, rfl, rfl, ?_⟩
        refine ⟨_, rfl, _, rfl, d, _, rfl, dget (e3 _ _ hd) (O.has _ a1 a2) O.nd, _, rfl, _, rfl, d, _, rfl, dget (e3 _ _ hd) (O.has _ a3 a4) O.nd, (by show 2 ≤ sizeLine; decide), fun T nT => ?_⟩
        exact hy rfl _ _ (Ex.new nT) (dt_pair (SqT.of upd_same) (dt_int _) (dt_int _))
      · rw [filter_yes] at hys
        refine ⟨D, ys, _, rfl, .inl (SqL.of hD), hys, (by rw [List.length_map]; omega), fun L zs nL hz => ?_⟩
        refine ⟨L, zs, rfl, .inl ⟨SqL.of upd_same, fun M nM => ?_⟩⟩
        have x1 : Ex H3 (upd H3 L (.lst zs)) := Ex.new nL
        have x2 := x1.trans (Ex.new (o := .tup zs) nM)
        refine ⟨(by show 2 ≤ sizeLine; decide), fun T nT => ?_⟩
        have x3 := x2.trans (Ex.new (o := .tup [.int n, .ref M]) nT)
        have e4 := (e2.trans e3).trans x3
        have hTw : DT K (upd (upd (upd H3 L (.lst zs)) M (.tup zs)) T (.tup [.int n, .ref M])) (.ref T) ((n, PySem.W.Tup.mk (srt (as.map fun p => ((idx os p.1, idx os p.2) : Arr)))) : WebD) :=
          dt_pair (SqT.of upd_same) (dt_int _) (dt_tup (ex_t (Ex.new nT) (SqT.of upd_same)) (dts_ex ((Ex.new nL).trans ((Ex.new nM).trans (Ex.new nT))) hz))
        have hd4 := x3 _ _ (e3 _ _ hd)
        revert e4 hTw hd4
        generalize upd (upd (upd H3 L (.lst zs)) M (.tup zs)) T (.tup [.int n, .ref M]) = H4
        intro e4 hTw hd4
        refine ⟨_, rfl, b, rfl, ⟨_, ex_t e4 hB⟩, fun D2 nD2 => ?_⟩
        refine lcW (K := K) (g := gName 4) walk_tup bs (by rw [List.length_map]) (fun _ => true) (idx os) nD2 (by rw [List.length_map]; omega) (fun H' e => ex_t (e4.trans e) hB) (fun i k z H' H'' Qy Qn hp e5 hY hy hn => ?_) (fun ws H5 e5 hD2 hws => ?_)
        · obtain ⟨rfl, hz2⟩ := hY
          obtain ⟨k', hk', rfl⟩ := map_at hz2
          rw [hp] at hk'
          cases hk'
          obtain ⟨k0, k1⟩ := N.lamp k (List.mem_of_getElem? hp)
          refine ⟨rfl, ?_⟩
          refine ⟨_, rfl, _, rfl, d, _, rfl, dget (e5 _ _ hd4) (O.has _ k0 k1) O.nd, ?_⟩
          exact hy rfl _ _ (Ex.refl _) (dt_int _)
        · rw [filter_yes] at hws
          refine ⟨D2, ws, _, rfl, .inl (SqL.of hD2), hws, (by rw [List.length_map]; omega), fun L2 us nL2 hu => ?_⟩
          refine ⟨L2, us, rfl, .inl ⟨SqL.of upd_same, fun M2 nM2 => ?_⟩⟩
          refine ⟨(by show 2 ≤ sizeLine; decide), fun T2 nT2 => ?_⟩
          have y1 : Ex H5 (upd H5 L2 (.lst us)) := Ex.new nL2
          have y2 := y1.trans (Ex.new (o := .tup us) nM2)
          have y3 := y2.trans (Ex.new (o := .tup [.ref T, .ref M2]) nT2)
          exact q _ _ (e4.trans (e5.trans y3)) (dt_pair (SqT.of upd_same) (dt_ex (e5.trans y3) hTw) (dt_tup (ex_t (Ex.new nT2) (SqT.of upd_same)) (dts_ex y3 hu)))
end
end Kw

/-! ## KwG3 -/
set_option Elab.async false
set_option linter.all false
set_option maxRecDepth 100000
set_option maxHeartbeats 4000000
namespace Kw
open PySem PySem.Spec PyProof.Rows L2
open Evl (Ex ex_t ex_l fresh_back)
/-! ### the row of draws: a list that alone changes -/
def Grow (r : Addr) (H H' : Hp) : Prop := ∀ b o, b ≠ r → H b = some o → H' b = some o
theorem Grow.refl (r : Addr) (H : Hp) : Grow r H H := fun _ _ _ h => h
theorem Grow.trans {r : Addr} {H H1 H2 : Hp} (a : Grow r H H1) (b : Grow r H1 H2) : Grow r H H2 := fun c o n h => b c o n (a c o n h)
theorem Grow.ex {r : Addr} {H H' : Hp} (e : Ex H H') : Grow r H H' := fun b o _ h => e b o h
theorem Grow.upd {r : Addr} {H : Hp} {o : HO} : Grow r H (upd H r o) := fun b u n h => by
  rw [upd_ne n]
  exact h
def Sc (K : PySem.W.Frag) (r : Addr) (H : Hp) (sc : Addr) (ns : List Int) : Prop := ∀ H', Grow r H H' → SqL K H' sc (ns.map V.int)
theorem Sc.grow {K : PySem.W.Frag} {r : Addr} {H H' : Hp} {sc : Addr} {ns : List Int} (g : Grow r H H') (h : Sc K r H sc ns) : Sc K r H' sc ns := fun H2 g2 => h H2 (g.trans g2)
def rowL (sc : Addr) (i a c : Int) : List V := [.ref sc, .int i, .int a, .int c]
/-- the row as it stands: the script at sc, its place, the mixed number, a great cell's rest -/
def RowSt (r sc : Addr) (H : Hp) : Prop := ∃ i a c : Int, H r = some (.lst (rowL sc i a c)) ∧ 0 ≤ i ∧ 0 ≤ a ∧ a < 2147483647
theorem RowSt.ex {r sc : Addr} {H H' : Hp} (e : Ex H H') (h : RowSt r sc H) : RowSt r sc H' := by
  obtain ⟨i, a, c, h1, h2⟩ := h
  exact ⟨i, a, c, e _ _ h1, h2⟩
theorem RowSt.upd {r sc b : Addr} {H : Hp} {o : HO} (n : b ≠ r) (h : RowSt r sc H) : RowSt r sc (L2.upd H b o) := by
  obtain ⟨i, a, c, h1, h2⟩ := h
  exact ⟨i, a, c, by rw [upd_ne (Ne.symm n)]; exact h1, h2⟩
theorem RowSt.lst {r sc : Addr} {H : Hp} (h : RowSt r sc H) : ∃ xs, H r = some (.lst xs) := by
  obtain ⟨i, a, c, h1, _⟩ := h
  exact ⟨_, h1⟩
theorem RowSt.ne {r sc b : Addr} {H : Hp} (h : RowSt r sc H) (n : H b = none) : b ≠ r := by
  obtain ⟨xs, e⟩ := h.lst
  exact (ne_of_none e n).symm
theorem grow_t {K : PySem.W.Frag} {r a : Addr} {H H' : Hp} {xs ys : List V} (g : Grow r H H') (h : H r = some (.lst xs)) (q : SqT K H a ys) : SqT K H' a ys := by
  rcases q with (q | ⟨u, q⟩) | q
  · exact .inl (.inl (g _ _ (ne_of q h (fun z => nomatch z)) q))
  · exact .inl (.inr ⟨u, g _ _ (ne_of q h (fun z => nomatch z)) q⟩)
  · exact .inr q
theorem grow_pt {r a : Addr} {H H' : Hp} {xs ys : List V} (g : Grow r H H') (h : H r = some (.lst xs)) (q : PT H a ys) : PT H' a ys := by
  obtain ⟨u, q, d⟩ := q
  exact ⟨u, g _ _ (ne_of q h (fun z => nomatch z)) q, d⟩
section
variable {P : Program} {w : World} {K : PySem.W.Frag} {mg : Str → Option Value} {base : Heap}
/-! ### _law_taken -/
def spTaken (K : PySem.W.Frag) : Sp := fun vs H Q _ => ∃ (r sc : Addr) (ns : List Int) (m : Int), vs = [.ref r, .int m] ∧ RowSt r sc H ∧ Sc K r H sc ns ∧ 1 ≤ m ∧ m ≤ 1000 ∧ ∀ k H', 0 ≤ k → k < m → Grow r H H' → RowSt r sc H' → Q (.int k) H'
theorem ok_taken {f : Addr} {fd : FuncData} (F : Fun K "_law_taken" "_law_taken" sTaken f fd) (B : Blt mg) : FnOk P w K mg base CX0 1 f fd ["_law_row", "_law_many"] (spTaken K) := by
  refine F.ok scTaken (fun vs H Q E h => ?_) (fun cdv A outer s H vs Q E hr h => ?_)
  · obtain ⟨r, sc, ns, m, rfl, _⟩ := h
    rfl
  · obtain ⟨r, sc, ns, m, rfl, ⟨i, a, c, hR, i0, a0, a1⟩, hS, m1, m2, q⟩ := h
    refine ⟨_, pss_cons (ps_if (pt_cmpR op_gt (pe_ix ix_list (pv 0) pe_int (fun _ _ => rfl)) pe_int (nomark _))
        (pss_cons (ps_set (i := 2) scTaken.nd rfl (Or.inl rfl) (pe_op op_mod (pe_callTy call_int1 (by rfl) B.int bt_int (pa_cons (pe_ix ix_list (pv 0) pe_int (fun _ _ => rfl)) pa_nil)) (pv 1)))
        (pss_cons (ps_asg (pe_op op_fdiv (pe_ix ix_list (pv 0) pe_int (fun _ _ => rfl)) (pv 1)) (pg_sub (pv 0) pe_int set_list)) (pss_one (ps_ret (pv 2))))) pss_nil)
      (pss_cons (ps_asg (pe_op op_add (pe_ix ix_list (pv 0) pe_int (fun _ _ => rfl)) pe_int) (pg_sub (pv 0) pe_int set_list))
      (pss_cons (ps_if (pt_cmpR op_gt (pe_ix ix_list (pv 0) pe_int (fun _ _ => rfl)) (pe_callB call_len_seq (by rfl) B.len bt_len (pa_cons (pe_ix ix_list (pv 0) pe_int (fun _ _ => rfl)) pa_nil)) (nomark _))
        (pss_cons (ps_asg (pe_op op_mod (pe_callTy call_int1 (by rfl) B.int bt_int (pa_cons (pe_op op_add (pe_op op_mul (pe_ix ix_list (pv 0) pe_int (fun _ _ => rfl)) pe_int) pe_int) pa_nil)) pe_int) (pg_sub (pv 0) pe_int set_list))
        (pss_one (ps_ret (pe_op op_mod (pe_callTy call_int1 (by rfl) B.int bt_int (pa_cons (pe_op op_fdiv (pe_ix ix_list (pv 0) pe_int (fun _ _ => rfl)) pe_int) pa_nil)) (pv 1))))) pss_nil)
      (pss_cons (ps_set (i := 3) scTaken.nd rfl (Or.inl rfl) (pe_ix ix_list (pe_ix ix_list (pv 0) pe_int (fun _ _ => rfl)) (pe_op op_sub (pe_ix ix_list (pv 0) pe_int (fun _ _ => rfl)) pe_int) (fun _ _ => rfl)))
      (pss_cons (ps_asg (pe_op op_mod (pe_callTy call_int1 (by rfl) B.int bt_int (pa_cons (pe_op op_add (pe_op op_add (pe_op op_mul (pe_ix ix_list (pv 0) pe_int (fun _ _ => rfl)) pe_int) (pv 3)) pe_int) pa_nil)) pe_int) (pg_sub (pv 0) pe_int set_list))
      (pss_cons (ps_if (pt_cmpR op_ge (pv 3) (pe_op op_pow pe_int pe_int) (nomark _)) (pss_one (ps_asg (pe_op op_fdiv (pv 3) (pv 1)) (pg_sub (pv 0) pe_int set_list))) pss_nil)
      (pss_one (ps_ret (pe_op op_mod (pe_callTy call_int1 (by rfl) B.int bt_int (pa_cons (pv 3) pa_nil)) (pv 1))))))))), ?_⟩
    have rem : ∀ x : Int, 0 ≤ x % m ∧ x % m < m := fun x => ⟨Int.emod_nonneg _ (by omega), Int.emod_lt_of_pos _ (by omega)⟩
    refine ⟨_, rfl, r, _, 3, _, rfl, rfl, SqL.of hR, rfl, c, 0, rfl, rfl, _, rfl, ite2 (fun e => ?_) (fun e => ?_)⟩
    · refine ⟨_, rfl, r, _, 3, _, rfl, rfl, SqL.of hR, rfl, .inl ⟨c, rfl, _, rfl, c, m, rfl, rfl, by show 0 < m; omega, ?_⟩⟩
      refine ⟨_, rfl, r, _, 3, _, rfl, rfl, SqL.of hR, rfl, _, rfl, c, m, rfl, rfl, ⟨by omega, by omega⟩, ?_⟩
      refine ⟨_, rfl, r, _, 3, 3, rfl, rfl, hR, rfl, ?_⟩
      refine ⟨_, rfl, q _ _ (rem c).1 (rem c).2 Grow.upd ⟨i, a, c / m, upd_same, i0, a0, a1⟩⟩
    · refine ⟨_, rfl, r, _, 1, _, rfl, rfl, SqL.of hR, rfl, i, 1, rfl, rfl, ?_⟩
      refine ⟨_, rfl, r, _, 1, 1, rfl, rfl, hR, rfl, ?_⟩
      have g1 : Grow r H (upd H r (.lst (rowL sc (i + 1) a c))) := Grow.upd
      have h1 : (upd H r (.lst (rowL sc (i + 1) a c))) r = some (.lst (rowL sc (i + 1) a c)) := upd_same
      show tSeq _ _ _ _ (upd H r (.lst (rowL sc (i + 1) a c)))
      revert g1 h1
      generalize upd H r (.lst (rowL sc (i + 1) a c)) = H1
      intro g1 h1
      have s1 := hS.grow g1
      refine ⟨_, rfl, r, _, 1, _, rfl, rfl, SqL.of h1, rfl, _, rfl, r, _, 0, _, rfl, rfl, SqL.of h1, rfl, sc, _, rfl, .inl (s1 _ (Grow.refl _ _)), i + 1, _, rfl, rfl, _, rfl, ite2 (fun e2 => ?_) (fun e2 => ?_)⟩
      · refine ⟨_, rfl, r, _, 2, _, rfl, rfl, SqL.of h1, rfl, a, 48271, rfl, rfl, .inl ⟨by omega, by omega⟩, _, 11, rfl, rfl, .inl ⟨_, rfl, _, 2147483647, rfl, rfl, by show (0 : Int) < 2147483647; decide, ?_⟩⟩
        refine ⟨_, rfl, r, _, 2, 2, rfl, rfl, h1, rfl, ?_⟩
        refine ⟨_, rfl, r, _, 2, _, rfl, rfl, SqL.of upd_same, rfl, _, 7, rfl, rfl, ⟨by decide, by decide⟩, .inl ⟨_, rfl, _, rfl, _, m, rfl, rfl, by show 0 < m; omega, ?_⟩⟩
        exact q _ _ (rem _).1 (rem _).2 (g1.trans Grow.upd) ⟨i + 1, _, c, upd_same, by omega, Int.emod_nonneg _ (by decide), Int.emod_lt_of_pos _ (by decide)⟩
      · have hlen : ¬ (((ns.map V.int).length : Nat) : Int) < i + 1 := fun z => e2 (decide_eq_true z)
        rw [List.length_map] at hlen
        have hi : i.toNat < ns.length := by omega
        have hc : (ns.map V.int)[i.toNat]? = some (.int ns[i.toNat]) := map_at' (List.getElem?_eq_getElem hi)
        revert hc
        generalize ns[i.toNat] = z
        intro hc
        refine ⟨_, rfl, r, _, 0, _, rfl, rfl, SqL.of h1, rfl, _, rfl, r, _, 1, _, rfl, rfl, SqL.of h1, rfl, i + 1, 1, rfl, rfl, sc, _, _, _, rfl, rfl, s1 _ (Grow.refl _ _), at_of (by omega) hc, ?_⟩
        refine ⟨_, rfl, r, _, 2, _, rfl, rfl, SqL.of h1, rfl, a, 48271, rfl, rfl, .inl ⟨by omega, by omega⟩, _, rfl, _, z, rfl, rfl, _, 11, rfl, rfl, .inl ⟨_, rfl, _, 2147483647, rfl, rfl, by show (0 : Int) < 2147483647; decide, ?_⟩⟩
        refine ⟨_, rfl, r, _, 2, 2, rfl, rfl, h1, rfl, ?_⟩
        have g2 : Grow r H1 (upd H1 r (.lst (rowL sc (i + 1) ((a * 48271 + z + 11) % 2147483647) c))) := Grow.upd
        have h2 : (upd H1 r (.lst (rowL sc (i + 1) ((a * 48271 + z + 11) % 2147483647) c))) r = some (.lst (rowL sc (i + 1) ((a * 48271 + z + 11) % 2147483647) c)) := upd_same
        show tSeq _ _ _ _ (upd H1 r (.lst (rowL sc (i + 1) ((a * 48271 + z + 11) % 2147483647) c)))
        revert g2 h2
        generalize upd H1 r (.lst (rowL sc (i + 1) ((a * 48271 + z + 11) % 2147483647) c)) = H2
        intro g2 h2
        have s2 := s1.grow g2
        have b0 : 0 ≤ (a * 48271 + z + 11) % 2147483647 := Int.emod_nonneg _ (by decide)
        have b1 : (a * 48271 + z + 11) % 2147483647 < 2147483647 := Int.emod_lt_of_pos _ (by decide)
        refine ⟨_, rfl, 10, 18, rfl, rfl, ⟨by decide, by decide, by decide⟩, z, _, rfl, rfl, _, rfl, ite2 (fun e3 => ?_) (fun e3 => ?_)⟩
        · refine ⟨_, rfl, _, rfl, z, m, rfl, rfl, ⟨by omega, by omega⟩, ?_⟩
          refine ⟨_, rfl, r, _, 3, 3, rfl, rfl, h2, rfl, ?_⟩
          refine ⟨_, rfl, .inl ⟨z, rfl, _, rfl, z, m, rfl, rfl, by show 0 < m; omega, ?_⟩⟩
          exact q _ _ (rem z).1 (rem z).2 (g1.trans (g2.trans Grow.upd)) ⟨i + 1, _, z / m, upd_same, by omega, b0, b1⟩
        · refine ⟨_, rfl, .inl ⟨z, rfl, _, rfl, z, m, rfl, rfl, by show 0 < m; omega, ?_⟩⟩
          exact q _ _ (rem z).1 (rem z).2 (g1.trans g2) ⟨i + 1, _, c, h2, by omega, b0, b1⟩
end
end Kw

/-! ## KwG4 -/
set_option Elab.async false
set_option linter.all false
set_option maxRecDepth 100000
set_option maxHeartbeats 4000000
namespace Kw
open PySem PySem.Spec PyProof.Rows L2
open Evl (Ex ex_t ex_l fresh_back)
theorem Grow.mut {r b : Addr} {H H' : Hp} {o : HO} (g : Grow r H H') (n : H b = none) : Grow r H (L2.upd H' b o) := fun c u nc h => by
  rw [upd_ne (ne_of_none h n)]
  exact g c u nc h
theorem Grow.back {r b : Addr} {H H' : Hp} (g : Grow r H H') (nr : b ≠ r) (n : H' b = none) : H b = none := by
  cases e : H b with
  | none => rfl
  | some o =>
    rw [g b o nr e] at n
    cases n
section
variable {P : Program} {w : World} {K : PySem.W.Frag} {mg : Str → Option Value} {base : Heap}
/-! ### _law_pick -/
def spPick (K : PySem.W.Frag) : Sp := fun vs H Q _ => ∃ (r sc : Addr) (ns : List Int) (p : Addr) (xs : List V), vs = [.ref r, .ref p] ∧ RowSt r sc H ∧ Sc K r H sc ns ∧ H p = some (.lst xs) ∧ p ≠ r ∧ 1 ≤ xs.length ∧ xs.length ≤ 1000 ∧
  ∀ (i : Nat) x H', xs[i]? = some x → Grow r H H' → RowSt r sc H' → Q x H'
theorem ok_pick {f ft : Addr} {fd fdt : FuncData} (F : Fun K "_law_pick" "_law_pick" sPick f fd) (B : Blt mg) (HT : Has K mg "_law_taken" sTaken ["_law_row", "_law_many"] ft fdt) : FnOk P w K mg base CX0 2 f fd ["_law_row", "_law_things"] (spPick K) := by
  have GT : FnOk P w K mg base CX0 1 ft fdt ["_law_row", "_law_many"] (spTaken K) := ok_taken HT.F B
  refine F.ok scPick (fun vs H Q E h => ?_) (fun cdv A outer s H vs Q E hr h => ?_)
  · obtain ⟨r, sc, ns, p, xs, rfl, _⟩ := h
    rfl
  · obtain ⟨r, sc, ns, p, xs, rfl, hR, hS, hp, np, l1, l2, q⟩ := h
    refine ⟨_, pss_one (ps_ret (pe_ix ix_list (pv 1) (pe_call GT hr (by rfl) HT.g HT.F.kp HT.b .nil pass0 (pa_cons (pv 0) (pa_cons (pe_callB call_len_seq (by rfl) B.len bt_len (pa_cons (pv 1) pa_nil)) pa_nil))) (fun _ _ => rfl))), ?_⟩
    refine ⟨_, rfl, _, rfl, _, rfl, p, xs, rfl, .inl (SqL.of hp), r, sc, ns, _, rfl, hR, hS, by omega, by omega, fun k H' k0 k1 g hR' => ?_⟩
    have hk : k.toNat < xs.length := by omega
    exact ⟨p, xs, k, _, rfl, rfl, SqL.of (g _ _ np hp), at_of (by omega) (List.getElem?_eq_getElem hk), q k.toNat _ H' (List.getElem?_eq_getElem hk) g hR'⟩
/-! ### _law_burning -/
def spBurning (K : PySem.W.Frag) : Sp := fun vs H Q _ => ∃ (r sc : Addr) (ns : List Int) (n : Int), vs = [.ref r, .int n] ∧ RowSt r sc H ∧ Sc K r H sc ns ∧ 1 ≤ n ∧ n ≤ 4 ∧ ∀ v bs H', BurnOk n bs → Grow r H H' → RowSt r sc H' → DT K H' v (PySem.W.Tup.mk bs : TupL Int) → Q v H'
theorem ok_burning {f ft fp : Addr} {fd fdt fdp : FuncData} (F : Fun K "_law_burning" "_law_burning" sBurning f fd) (B : Blt mg) (HT : Has K mg "_law_taken" sTaken ["_law_row", "_law_many"] ft fdt) (HP : Has K mg "_law_pick" sPick ["_law_row", "_law_things"] fp fdp) :
    FnOk P w K mg base CX0 3 f fd ["_law_row", "_law_many"] (spBurning K) := by
  have GT : FnOk P w K mg base CX0 1 ft fdt ["_law_row", "_law_many"] (spTaken K) := ok_taken HT.F B
  have GP : FnOk P w K mg base CX0 2 fp fdp ["_law_row", "_law_things"] (spPick K) := ok_pick HP.F B HT
  refine F.ok scBurning (fun vs H Q E h => ?_) (fun cdv A outer s H vs Q E hr h => ?_)
  · obtain ⟨r, sc, ns, n, rfl, _⟩ := h
    rfl
  · obtain ⟨r, sc, ns, n, rfl, hR, hS, n1, n4, q⟩ := h
    have hr1 : Room 1 _ := hr.mono (by decide)
    refine ⟨_, pss_cons (ps_set (i := 2) scBurning.nd rfl (Or.inr rfl) (pe_call GP hr (by rfl) HP.g HP.F.kp HP.b .nil pass0 (pa_cons (pv 0) (pa_cons (pe_lst (pa_cons pe_int (pa_cons pe_int (pa_cons pe_int pa_nil)))) pa_nil))))
      (pss_one (ps_ret (pe_callTy call_tuple_of (by rfl) B.tuple bt_tuple (pa_cons
        (pe_lc (own := [("_law_k", 3)]) (g := gName 3) rfl scBurning.nd (pi_range1 (by rfl) B.range (pa_cons (pv 1) pa_nil)) (blkOk_by (own := [("_law_k", 3)]) (N := ["_law_row", "_law_many", "_law_thin", "_law_k"]) (sc := defScope sBurning) (by decide +kernel))
          (fun _ _ _ _ _ => pg_name (i := 3) scBurning.nd rfl (Or.inl rfl))
          (fun _ _ _ _ _ => pts_one (pt_cmpR op_eq (pe_call GT hr1 (by rfl) HT.g HT.F.kp HT.b .nil pass0 (pa_cons (pv 0) (pa_cons (pv 2) pa_nil))) pe_int (nomark _)))
          (fun _ _ _ _ _ => pv 3)) pa_nil)))), ?_⟩
    refine ⟨_, rfl, (by show 3 ≤ sizeLine; decide), fun p np => ?_⟩
    have npr : p ≠ r := hR.ne np
    have g0 : Grow r H (upd H p (.lst [V.int 2, V.int 2, V.int 4])) := (Grow.refl r H).mut np
    refine ⟨r, sc, ns, p, _, rfl, hR.upd npr, hS.grow g0, upd_same, npr, by decide, by decide, fun i x H1 hx g1 hR1 => ?_⟩
    obtain ⟨th, rfl, t1, t2⟩ : ∃ th : Int, x = .int th ∧ 1 ≤ th ∧ th ≤ 1000 := by
      match i, hx with
      | 0, hx => exact ⟨2, (Option.some.inj hx).symm, by decide, by decide⟩
      | 1, hx => exact ⟨2, (Option.some.inj hx).symm, by decide, by decide⟩
      | 2, hx => exact ⟨4, (Option.some.inj hx).symm, by decide, by decide⟩
    have g01 := g0.trans g1
    refine ⟨_, rfl, n, rfl, by omega, by omega, fun D nD => ?_⟩
    have nDr : D ≠ r := hR1.ne nD
    refine lc_it (walk_range (lo := 0) (n := n.toNat)) (fun i H' => Grow r H1 H' ∧ RowSt r sc H' ∧ ∃ acc : List Int, H' D = some (.lst (acc.map V.int)) ∧ (∀ b ∈ acc, 0 ≤ b ∧ b < i) ∧ acc.Pairwise (· < ·) ∧ acc.length ≤ i)
      ⟨(Grow.refl r H1).mut nD, hR1.upd nDr, [], upd_same, (fun _ h => nomatch h), List.Pairwise.nil, Nat.le_refl _⟩ (fun _ _ _ _ => trivial) (fun i z H' H'' hi hP hY => ?_) (fun H' hP => ?_)
    · obtain ⟨g2, hR2, acc, hD, ha, hpw, hl⟩ := hP
      obtain ⟨rfl, rfl⟩ := hY
      refine ⟨rfl, _, rfl, _, rfl, r, sc, ns, th, rfl, hR2, hS.grow (g01.trans g2), t1, t2, fun k H3 k0 k1 g3 hR3 => ?_⟩
      have hD3 := g3 _ _ nDr hD
      refine ⟨rfl, _, rfl, ite2 (fun e => ?_) (fun e => ?_)⟩
      · refine ⟨_, rfl, acc.map V.int, hD3, (by rw [List.length_map, sizeLine_eq]; omega), (g2.trans g3).mut nD, hR3.upd nDr, acc ++ [(i : Int)], ?_, fun b hb => ?_, ?_, by rw [List.length_append, List.length_singleton]; omega⟩
        · rw [upd_same, List.map_append]
          show some (HO.lst (acc.map V.int ++ [V.int (0 + (i : Int))])) = _
          rw [Int.zero_add]
          rfl
        · rcases List.mem_append.mp hb with h | h
          · have := ha b h
            omega
          · rw [List.mem_singleton.mp h]
            omega
        · refine List.pairwise_append.mpr ⟨hpw, List.pairwise_singleton _ _, fun a haa b hb => ?_⟩
          rw [List.mem_singleton.mp hb]
          exact (ha a haa).2
      · exact ⟨g2.trans g3, hR3, acc, hD3, fun b hb => by have := ha b hb; omega, hpw, by omega⟩
    · obtain ⟨g2, hR2, acc, hD, ha, hpw, hl⟩ := hP
      refine ⟨D, _, rfl, .inl ⟨SqL.of hD, fun T nT => ?_⟩⟩
      have nTr : T ≠ r := hR2.ne nT
      refine q _ acc _ ⟨fun b hb => by have := ha b hb; omega, hpw, by omega⟩ ((g01.trans g2).mut ((g01.trans g2).back nTr nT)) (hR2.upd nTr) (dt_tup (SqT.of upd_same) (dts_ints acc))
end
end Kw

/-! ## KwG5 -/
set_option Elab.async false
set_option linter.all false
set_option maxRecDepth 100000
set_option maxHeartbeats 4000000
namespace Kw
open PySem PySem.Spec PyProof.Rows L2
open Evl (Ex ex_t ex_l fresh_back)
/-! ### the arrows of a drawn web -/
def Good (n : Int) (l : List Arr) : Prop := ∀ p ∈ l, 0 ≤ p.1 ∧ p.1 < n ∧ 0 ≤ p.2 ∧ p.2 < n ∧ p.1 ≠ p.2
section
variable {K : PySem.W.Frag} {H : Hp}
/-- pairs, as the set's rule takes them -/
theorem pairs_ks : ∀ {vs : List V} {l : List Arr}, DTs K H vs l → ∃ ks : List (Addr × List Int), vs = ks.map (fun p => V.ref p.1) ∧ ks.map (·.2) = l.map (fun q => [q.1, q.2]) ∧ ∀ p ∈ ks, SqT K H p.1 (p.2.map V.int)
  | [], [], _ => ⟨[], rfl, rfl, fun _ h => nomatch h⟩
  | [], _ :: _, h => absurd (dts_len h) (by simp)
  | _ :: _, [], h => absurd (dts_len h) (by simp)
  | v :: vs, q :: l, h => by
    obtain ⟨h1, h2⟩ := dts_inv h
    obtain ⟨a, x, y, e, hs, hx, hy⟩ := dt_pair_inv h1
    have ex := dt_int_inv hx
    have ey := dt_int_inv hy
    subst e ex ey
    obtain ⟨ks, e2, e3, hp⟩ := pairs_ks h2
    refine ⟨(a, [q.1, q.2]) :: ks, by rw [e2]; rfl, by rw [List.map_cons, List.map_cons, e3], fun p hp' => ?_⟩
    rcases List.mem_cons.mp hp' with z | z
    · rw [z]
      exact hs
    · exact hp p z
def arrOf (q : Addr × List Int) : Arr := (q.2.getD 0 0, q.2.getD 1 0)
theorem ks_dts : ∀ (L : List (Addr × List Int)), (∀ q ∈ L, SqT K H q.1 (q.2.map V.int) ∧ q.2 = [(arrOf q).1, (arrOf q).2]) → DTs K H (L.map fun q => V.ref q.1) (L.map arrOf)
  | [], _ => dts_nil
  | q :: L, h => by
    obtain ⟨h1, h2⟩ := h q List.mem_cons_self
    rw [h2] at h1
    exact dts_cons (dt_pair h1 (dt_int _) (dt_int _)) (ks_dts L fun p hp => h p (List.mem_cons_of_mem _ hp))
end
theorem web_of {n : Int} {L : List (Addr × List Int)} (n1 : 1 ≤ n) (n4 : n ≤ 4) (hL : ∀ q ∈ L, q.2 = [(arrOf q).1, (arrOf q).2]) (hg : Good n (L.map arrOf)) (nd : (L.map (·.2)).Nodup) (h64 : L.length < 64) (hp : L.Pairwise fun q r => TS.code 64 q.2 ≤ TS.code 64 r.2) : WebOk n (L.map arrOf) := by
  refine ⟨n1, n4, hg, List.pairwise_map.mpr ?_, by rw [List.length_map]; omega⟩
  have nd' : L.Pairwise fun a b => a.2 ≠ b.2 := List.pairwise_map.mp nd
  refine List.Pairwise.imp_of_mem (fun {a b} ha hb h => ?_) (hp.and nd')
  obtain ⟨hc, hne⟩ := h
  rw [hL a ha, hL b hb] at hc hne
  obtain ⟨x1, x2, x3, x4, _⟩ := hg _ (List.mem_map.mpr ⟨a, ha, rfl⟩)
  obtain ⟨y1, y2, y3, y4, _⟩ := hg _ (List.mem_map.mpr ⟨b, hb, rfl⟩)
  exact pair_lt hc hne ⟨x1, by omega⟩ ⟨x3, by omega⟩ ⟨y1, by omega⟩ ⟨y3, by omega⟩
section
variable {P : Program} {w : World} {K : PySem.W.Frag} {mg : Str → Option Value} {base : Heap}
/-- the test ahead of an arrow: whatever was drawn, only unlike lamps get one -/
theorem arrow_test {σ : L2.St} {H : Hp} {r sc : Addr} {ns : List Int} {k j way th : Int} {R : Bool → Hp → Prop} (h0 : σ[0]? = some (some (.ref r))) (h3 : σ[3]? = some (some (.int way))) (h4 : σ[4]? = some (some (.int th))) (h6 : σ[6]? = some (some (.int k))) (h7 : σ[7]? = some (some (.int j)))
    (hR : RowSt r sc H) (hS : Sc K r H sc ns) (t1 : 1 ≤ th) (t2 : th ≤ 1000) (fin : ∀ b H2, (b = true → k ≠ j) → Grow r H H2 → RowSt r sc H2 → R b H2) :
    tAnd (tTest (tOp rNe (tVar 6) (tVar 7))) (tOr (tAnd (tTest (tOp (rI0 fun i j => .bl (decide (i < j))) (tVar 3) (tC (.int 3)))) (tTest (tOp rEq (tCall (spTaken K) [] E0 (tCons (tVar 0) (tCons (tVar 4) tNil))) (tC (.int 0)))))
      (tAnd (tTest (tOp rEq (tVar 3) (tC (.int 3)))) (tAnd (tTest (tOp (rI0 fun i j => .bl (decide (i < j))) (tVar 6) (tVar 7))) (tTest (tOp rEq (tCall (spTaken K) [] E0 (tCons (tVar 0) (tCons (tC (.int 2)) tNil))) (tC (.int 0))))))) σ H R := by
  refine ⟨_, h6, _, h7, rfl, _, rfl, ite2 (fun e => ?_) (fun e => fin _ _ (fun z => nomatch z) (Grow.refl _ _) hR)⟩
  have hne : k ≠ j := fun z => by
    rw [z, decide_eq_true rfl] at e
    exact absurd e (by decide)
  have last : ∀ H1, Grow r H H1 → RowSt r sc H1 → tAnd (tTest (tOp rEq (tVar 3) (tC (.int 3)))) (tAnd (tTest (tOp (rI0 fun i j => .bl (decide (i < j))) (tVar 6) (tVar 7))) (tTest (tOp rEq (tCall (spTaken K) [] E0 (tCons (tVar 0) (tCons (tC (.int 2)) tNil))) (tC (.int 0))))) σ H1 R := fun H1 g1 hR1 => by
    refine ⟨_, h3, rfl, _, rfl, ite2 (fun _ => ?_) (fun _ => fin _ _ (fun z => nomatch z) g1 hR1)⟩
    refine ⟨_, h6, _, h7, k, j, rfl, rfl, _, rfl, ite2 (fun _ => ?_) (fun _ => fin _ _ (fun z => nomatch z) g1 hR1)⟩
    exact ⟨_, h0, r, sc, ns, 2, rfl, hR1, hS.grow g1, by decide, by decide, fun k' H2 _ _ g2 hR2 => ⟨rfl, _, rfl, fin _ _ (fun _ => hne) (g1.trans g2) hR2⟩⟩
  refine ⟨_, h3, way, 3, rfl, rfl, _, rfl, ite2 (fun _ => ?_) (fun _ => ?_)⟩
  · refine ⟨_, h0, _, h4, r, sc, ns, th, rfl, hR, hS, t1, t2, fun k' H2 _ _ g2 hR2 => ⟨rfl, _, rfl, ite2 (fun _ => fin _ _ (fun _ => hne) g2 hR2) (fun _ => last H2 g2 hR2)⟩⟩
  · exact iteF (last H (Grow.refl _ _) hR)
/-! ### _law_web -/
def spWeb (K : PySem.W.Frag) : Sp := fun vs H Q _ => ∃ (r sc : Addr) (ns : List Int), vs = [.ref r, .int 4] ∧ RowSt r sc H ∧ Sc K r H sc ns ∧ ∀ v n as H', WebOk n as → Grow r H H' → RowSt r sc H' → DT K H' v ((n, PySem.W.Tup.mk as) : WebD) → Q v H'
theorem ok_web {f ft fp : Addr} {fd fdt fdp : FuncData} (F : Fun K "_law_web" "_law_web" sWeb f fd) (B : Blt mg) (HT : Has K mg "_law_taken" sTaken ["_law_row", "_law_many"] ft fdt) (HP : Has K mg "_law_pick" sPick ["_law_row", "_law_things"] fp fdp) :
    FnOk P w K mg base CX0 3 f fd ["_law_row", "_law_most"] (spWeb K) := by
  have GT : FnOk P w K mg base CX0 1 ft fdt ["_law_row", "_law_many"] (spTaken K) := ok_taken HT.F B
  have GP : FnOk P w K mg base CX0 2 fp fdp ["_law_row", "_law_things"] (spPick K) := ok_pick HP.F B HT
  refine F.ok scWeb (fun vs H Q E h => ?_) (fun cdv A outer s H vs Q E hr h => ?_)
  · obtain ⟨r, sc, ns, rfl, _⟩ := h
    rfl
  · obtain ⟨r, sc, ns, rfl, hR, hS, q⟩ := h
    have hr1 : Room 1 _ := hr.mono (by decide)
    refine ⟨_, pss_cons (ps_par (i := 2) (j := 3) rfl scWeb.nd rfl rfl (by decide) rfl rfl (pa_cons (pe_op op_add pe_int (pe_call GT hr1 (by rfl) HT.g HT.F.kp HT.b .nil pass0 (pa_cons (pv 0) (pa_cons (pv 1) pa_nil)))) (pa_cons (pe_call GT hr1 (by rfl) HT.g HT.F.kp HT.b .nil pass0 (pa_cons (pv 0) (pa_cons pe_int pa_nil))) pa_nil)) (by rfl))
      (pss_cons (ps_par (i := 4) (j := 5) rfl scWeb.nd rfl rfl (by decide) rfl rfl (pa_cons (pe_call GP hr (by rfl) HP.g HP.F.kp HP.b .nil pass0 (pa_cons (pv 0) (pa_cons (pe_lst (pa_cons pe_int (pa_cons pe_int (pa_cons pe_int pa_nil)))) pa_nil))) (pa_cons (pe_lst pa_nil) pa_nil)) (by rfl))
      (pss_cons (ps_for PassesOwn.never rfl (pi_range1 (by rfl) B.range (pa_cons (pv 2) pa_nil)) (pg_name (i := 6) scWeb.nd rfl (Or.inl rfl))
        (pss_one (ps_for PassesOwn.never rfl (pi_range1 (by rfl) B.range (pa_cons (pv 2) pa_nil)) (pg_name (i := 7) scWeb.nd rfl (Or.inl rfl))
          (pss_one (ps_if (PW.pt (pw_and (pt_cmpR op_ne (pv 6) (pv 7) (nomark _)) (pw_and1 (PW.pt (pw_or (PW.pt (pw_and (pt_cmpR op_lt (pv 3) pe_int (nomark _)) (pw_and1 (pt_cmpR op_eq (pe_call GT hr1 (by rfl) HT.g HT.F.kp HT.b .nil pass0 (pa_cons (pv 0) (pa_cons (pv 4) pa_nil))) pe_int (nomark _)))))
              (pw_or1 (PW.pt (pw_and (pt_cmpR op_eq (pv 3) pe_int (nomark _)) (pw_and (pt_cmpR op_lt (pv 6) (pv 7) (nomark _)) (pw_and1 (pt_cmpR op_eq (pe_call GT hr1 (by rfl) HT.g HT.F.kp HT.b .nil pass0 (pa_cons (pv 0) (pa_cons pe_int pa_nil))) pe_int (nomark _)))))))))))) 
            (pss_one (ps_expr (pe_bm PySem.F.plainAttrs_list PySem.F.slot_list_append PySem.F.type_list_append mt_append (pv 5) (pa_cons (pe_tup (pa_cons (pv 6) (pa_cons (pv 7) pa_nil))) pa_nil)))) pss_nil)))))
      (C8.pss_cut (ps_if (pt_cmpR op_gt (pv 3) pe_int (nomark _)) (pss_one (ps_set (i := 5) scWeb.nd rfl (Or.inl rfl) (pe_op op_cat
          (pe_lc (own := [("_law_k", 6)]) (g := gName 6) (tt := tYes) rfl scWeb.nd (pi_range1 (by rfl) B.range (pa_cons (pe_op op_sub (pv 2) pe_int) pa_nil)) (blkOk_by (own := [("_law_k", 6)]) (N := ["_law_row", "_law_most", "_law_many", "_law_way", "_law_thin", "_law_arrows", "_law_k", "_law_j"]) (sc := defScope sWeb) (by decide +kernel))
            (fun _ _ _ _ _ => pg_name (i := 6) scWeb.nd rfl (Or.inl rfl)) (fun _ _ _ _ _ => pts_nil) (fun _ _ _ _ _ => pe_tup (pa_cons (pv 6) (pa_cons (pe_op op_add (pv 6) pe_int) pa_nil))))
          (pe_ifExp (PW.pt (pw_and (pt_cmpR op_eq (pv 3) pe_int (nomark _)) (pw_and1 (pt_cmpR op_gt (pv 2) pe_int (nomark _))))) (pe_lst (pa_cons (pe_tup (pa_cons (pe_op op_sub (pv 2) pe_int) (pa_cons pe_int pa_nil))) pa_nil)) (pe_lst pa_nil))))) pss_nil)
      (pss_one (ps_ret (pe_tup (pa_cons (pv 2) (pa_cons (pe_callTy call_tuple_of (by rfl) B.tuple bt_tuple (pa_cons (pe_callB (cr_sortedT rfl) (by rfl) B.sorted bt_sorted (pa_cons (pe_callTy (cr_setOfT rfl hr.units) (by rfl) B.set bt_set (pa_cons (pv 5) pa_nil)) pa_nil)) pa_nil)) pa_nil)))))))), ?_⟩
    -- the draws
    refine ⟨_, rfl, _, rfl, r, sc, ns, 4, rfl, hR, hS, by decide, by decide, fun n' H1 a0 a1 g1 hR1 => ?_⟩
    refine ⟨1, n', rfl, rfl, _, rfl, r, sc, ns, 6, rfl, hR1, hS.grow g1, by decide, by decide, fun way H2 w0 w1 g2 hR2 => ?_⟩
    have g12 := g1.trans g2
    have n1 : 1 ≤ 1 + n' := by omega
    have n4 : 1 + n' ≤ 4 := by omega
    revert n1 n4
    show 1 ≤ 1 + n' → 1 + n' ≤ 4 → ∃ v w, [V.int (1 + n'), V.int way] = [v, w] ∧ _
    generalize 1 + n' = n
    intro n1 n4
    refine ⟨_, _, rfl, ?_⟩
    refine ⟨_, rfl, (by show 3 ≤ sizeLine; decide), fun p np => ?_⟩
    have npr : p ≠ r := hR2.ne np
    have g3 : Grow r H2 (upd H2 p (.lst [V.int 2, V.int 3, V.int 5])) := (Grow.refl r H2).mut np
    refine ⟨r, sc, ns, p, _, rfl, hR2.upd npr, hS.grow (g12.trans g3), upd_same, npr, by decide, by decide, fun i x H3 hx g4 hR3 => ?_⟩
    obtain ⟨th, rfl, t1, t2⟩ : ∃ th : Int, x = .int th ∧ 1 ≤ th ∧ th ≤ 1000 := by
      match i, hx with
      | 0, hx => exact ⟨2, (Option.some.inj hx).symm, by decide, by decide⟩
      | 1, hx => exact ⟨3, (Option.some.inj hx).symm, by decide, by decide⟩
      | 2, hx => exact ⟨5, (Option.some.inj hx).symm, by decide, by decide⟩
    have g14 : Grow r H H3 := (g12.trans g3).trans g4
    refine ⟨Nat.zero_le _, fun ar nar => ⟨_, _, rfl, ?_⟩⟩
    have narr : ar ≠ r := hR3.ne nar
    have nHar : H ar = none := g14.back narr nar
    -- the loops
    refine ⟨_, rfl, n, rfl, by omega, by omega, ?_⟩
    refine for_it walk_range (fun k σ H' => ∃ y6 y7 ws l, σ = [some (.ref r), some (.int 4), some (.int n), some (.int way), some (.int th), some (.ref ar), y6, y7] ∧ Grow r H H' ∧ RowSt r sc H' ∧ H' ar = some (.lst ws) ∧ DTs K H' ws l ∧ Good n l ∧ l.length ≤ k * 4)
      ⟨none, none, [], [], rfl, g14.mut nHar, hR3.upd narr, upd_same, dts_nil, (fun _ h => nomatch h), Nat.le_refl _⟩ (fun _ _ _ _ _ => trivial) (fun k z σ H' H'' hk hP hY => ?_) (fun σ H' hP => ?_)
    · obtain ⟨y6, y7, ws, l, rfl, g5, hR5, har, hws, hl, hlen⟩ := hP
      obtain ⟨rfl, rfl⟩ := hY
      refine ⟨_, rfl, n, rfl, by omega, by omega, ?_⟩
      refine for_it walk_range (fun j σ H' => ∃ y7 ws l, σ = [some (.ref r), some (.int 4), some (.int n), some (.int way), some (.int th), some (.ref ar), some (.int (0 + (k : Int))), y7] ∧ Grow r H H' ∧ RowSt r sc H' ∧ H' ar = some (.lst ws) ∧ DTs K H' ws l ∧ Good n l ∧ l.length ≤ k * 4 + j)
        ⟨y7, ws, l, rfl, g5, hR5, har, hws, hl, hlen⟩ (fun _ _ _ _ _ => trivial) (fun j z σ H6 H7 hj hP hY => ?_) (fun σ H6 hP => ?_)
      · obtain ⟨y7, ws, l, rfl, g6, hR6, har, hws, hl, hlen⟩ := hP
        obtain ⟨rfl, rfl⟩ := hY
        refine arrow_test (r := r) (sc := sc) (ns := ns) rfl rfl rfl rfl rfl hR6 (hS.grow g6) t1 t2 fun b H8 hb g8 hR8 => ?_
        have har8 : H8 ar = some (.lst ws) := g8 _ _ narr har
        obtain ⟨xs0, hx0⟩ := hR6.lst
        have hws8 : DTs K H8 ws l := dts_keep (fun _ _ q => grow_t g8 hx0 q) hws
        cases b with
        | false => exact iteF ⟨_, ws, l, rfl, g6.trans g8, hR8, har8, hws8, hl, by omega⟩
        | true =>
          have hne := hb rfl
          refine iteT ?_
          refine ⟨_, rfl, .inl ⟨rfl, _, SqL.of har8⟩, _, rfl, _, rfl, (by show 2 ≤ sizeLine; decide), fun T nT => ?_⟩
          have nTr : T ≠ r := hR8.ne nT
          have narT : ar ≠ T := ne_of_none har8 nT
          have harT : (upd H8 T (.tup [V.int (0 + (k : Int)), V.int (0 + (j : Int))])) ar = some (.lst ws) := by
            rw [upd_ne narT]
            exact har8
          refine ⟨ar, ws, _, rfl, rfl, harT, (by rw [dts_len hws, sizeLine_eq]; omega), ?_⟩
          have g9 : Grow r H (upd H8 T (.tup [V.int (0 + (k : Int)), V.int (0 + (j : Int))])) := (g6.trans g8).mut ((g6.trans g8).back nTr nT)
          refine ⟨_, ws ++ [.ref T], l ++ [((0 + (k : Int), 0 + (j : Int)) : Arr)], rfl, g9.mut nHar, (hR8.upd nTr).upd narr, upd_same, ?_, fun a ha => ?_, by rw [List.length_append, List.length_singleton]; omega⟩
          · refine dts_keep (fun _ _ q => sqt_updL harT q) (dts_snoc (dts_ex (Ex.new nT) hws8) (dt_pair (SqT.of upd_same) (dt_int _) (dt_int _)))
          · rcases List.mem_append.mp ha with h | h
            · exact hl a h
            · rw [List.mem_singleton.mp h]
              exact ⟨by show 0 ≤ 0 + (k : Int); omega, by show 0 + (k : Int) < n; omega, by show 0 ≤ 0 + (j : Int); omega, by show 0 + (j : Int) < n; omega, hne⟩
      · obtain ⟨y7, ws, l, rfl, g6, hR6, har, hws, hl, hlen⟩ := hP
        exact ⟨_, y7, ws, l, rfl, g6, hR6, har, hws, hl, by omega⟩
    -- the written webs
    · obtain ⟨y6, y7, ws, l, rfl, g5, hR5, har, hws, hl, hlen⟩ := hP
      refine ⟨fun σ H' => ∃ y6 y7 ar ws l, σ = [some (.ref r), some (.int 4), some (.int n), some (.int way), some (.int th), some (.ref ar), y6, y7] ∧ Grow r H H' ∧ RowSt r sc H' ∧ H' ar = some (.lst ws) ∧ DTs K H' ws l ∧ Good n l ∧ l.length ≤ 16, ?_, ?_⟩
      · refine ⟨_, rfl, way, 3, rfl, rfl, _, rfl, ite2 (fun e => ?_) (fun e => ⟨y6, y7, ar, ws, l, rfl, g5, hR5, har, hws, hl, by omega⟩)⟩
        refine ⟨_, rfl, n, 1, rfl, rfl, _, rfl, by omega, by omega, fun D nD => ?_⟩
        have nDr : D ≠ r := hR5.ne nD
        have hm : (n - 1).toNat ≤ 3 := by omega
        refine lcW (K := K) (g := gName 6) (walk_range (lo := 0) (n := (n - 1).toNat)) (List.range (n - 1).toNat) List.length_range (fun _ => true) (fun i : Nat => (((i : Int), (i : Int) + 1) : Arr)) nD (by omega) (fun _ _ => trivial) (fun i j z H6 H7 Qy Qn hj e6 hY hy hn => ?_) (fun us H6 e6 hD hus => ?_)
        · obtain ⟨rfl, rfl⟩ := hY
          have hi : i < (n - 1).toNat := by
            have := (List.getElem?_eq_some_iff.mp hj).1
            rw [List.length_range] at this
            exact this
          have ej : i = j := by
            rw [List.getElem?_range hi] at hj
            exact Option.some.inj hj
          subst ej
          refine ⟨rfl, ?_⟩
          refine ⟨_, rfl, _, rfl, _, 1, rfl, rfl, (by show 2 ≤ sizeLine; decide), fun T nT => hy rfl _ _ (Ex.new nT) (dt_pair (SqT.of upd_same) ?_ ?_)⟩
          · show DT K _ (V.int (0 + (i : Int))) (i : Int)
            rw [Int.zero_add]
            exact dt_int _
          · show DT K _ (V.int (0 + (i : Int) + 1)) ((i : Int) + 1)
            rw [Int.zero_add]
            exact dt_int _
        · rw [filter_yes] at hus
          have gl : Good n ((List.range (n - 1).toNat).map fun i : Nat => (((i : Int), (i : Int) + 1) : Arr)) := fun a ha => by
            obtain ⟨i, hi, e⟩ := List.mem_map.mp ha
            have := List.mem_range.mp hi
            rw [← e]
            exact ⟨by show 0 ≤ (i : Int); omega, by show (i : Int) < n; omega, by show 0 ≤ (i : Int) + 1; omega, by show (i : Int) + 1 < n; omega, by show (i : Int) ≠ (i : Int) + 1; omega⟩
          have ll : ((List.range (n - 1).toNat).map fun i : Nat => (((i : Int), (i : Int) + 1) : Arr)).length ≤ 3 := by
            rw [List.length_map, List.length_range]
            exact hm
          revert gl ll hus
          generalize ((List.range (n - 1).toNat).map fun i : Nat => (((i : Int), (i : Int) + 1) : Arr)) = l1
          intro hus gl ll
          have g6 : Grow r H H6 := g5.trans (.ex e6)
          have hR6 := hR5.ex e6
          -- both lists joined
          have join : ∀ (b : Addr) (zs : List V) (l2 : List Arr) (H7 : Hp), Ex H6 H7 → H7 b = some (.lst zs) → DTs K H7 zs l2 → Good n l2 → l2.length ≤ 1 →
              rCat (.ref D) (.ref b) H7 (fun x H1 => gName 5 x [some (V.ref r), some (V.int 4), some (V.int n), some (V.int way), some (V.int th), some (V.ref ar), y6, y7] H1 fun σ H' => ∃ y6 y7 ar ws l, σ = [some (V.ref r), some (V.int 4), some (V.int n), some (V.int way), some (V.int th), some (V.ref ar), y6, y7] ∧ Grow r H H' ∧ RowSt r sc H' ∧ H' ar = some (.lst ws) ∧ DTs K H' ws l ∧ Good n l ∧ l.length ≤ 16) := fun b zs l2 H7 e7 hb hz hg2 hl2 => by
            have d1 := dts_len hus
            have d2 := dts_len hz
            refine ⟨D, b, us, zs, rfl, rfl, e7 _ _ hD, hb, (by rw [d1, d2, sizeLine_eq]; omega), fun T nT => ?_⟩
            have hR7 := hR6.ex e7
            have nTr : T ≠ r := hR7.ne nT
            have g7 : Grow r H H7 := g6.trans (.ex e7)
            refine ⟨y6, y7, T, us ++ zs, l1 ++ l2, rfl, g7.mut (g7.back nTr nT), hR7.upd nTr, upd_same, dts_ex (Ex.new nT) (dts_app (dts_ex e7 hus) hz), fun a ha => ?_, by rw [List.length_append]; omega⟩
            rcases List.mem_append.mp ha with h | h
            · exact gl a h
            · exact hg2 a h
          have none_ : ∀ H7, Ex H6 H7 → ∀ (q : Addr), H7 q = none → rCat (.ref D) (.ref q) (upd H7 q (.lst [])) (fun x H1 => gName 5 x [some (V.ref r), some (V.int 4), some (V.int n), some (V.int way), some (V.int th), some (V.ref ar), y6, y7] H1 fun σ H' => ∃ y6 y7 ar ws l, σ = [some (V.ref r), some (V.int 4), some (V.int n), some (V.int way), some (V.int th), some (V.ref ar), y6, y7] ∧ Grow r H H' ∧ RowSt r sc H' ∧ H' ar = some (.lst ws) ∧ DTs K H' ws l ∧ Good n l ∧ l.length ≤ 16) :=
            fun H7 e7 q nq => join q [] [] _ (e7.trans (Ex.new nq)) upd_same dts_nil (fun _ h => nomatch h) (Nat.zero_le _)
          refine ⟨_, rfl, rfl, _, rfl, ite2 (fun e5 => ?_) (fun e5 => iteF ⟨Nat.zero_le _, fun q nq => none_ H6 (Ex.refl _) q nq⟩)⟩
          refine ⟨_, rfl, n, 1, rfl, rfl, _, rfl, ite2 (fun e7 => ?_) (fun e7 => ⟨Nat.zero_le _, fun q nq => none_ H6 (Ex.refl _) q nq⟩)⟩
          have n2 : 1 < n := of_decide_eq_true e7
          refine ⟨_, rfl, n, 1, rfl, rfl, (by show 2 ≤ sizeLine; decide), fun T nT => ⟨(by show 1 ≤ sizeLine; decide), fun q nq => ?_⟩⟩
          refine join q [.ref T] [((n - 1, 0) : Arr)] _ ((Ex.new nT).trans (Ex.new nq)) upd_same (dts_cons (dt_pair (ex_t (Ex.new nq) (SqT.of upd_same)) (dt_int _) (dt_int _)) dts_nil) (fun a ha => ?_) (Nat.le_refl _)
          rw [List.mem_singleton.mp ha]
          exact ⟨by show 0 ≤ n - 1; omega, by show n - 1 < n; omega, by show (0 : Int) ≤ 0; omega, by show 0 < n; omega, by show n - 1 ≠ 0; omega⟩
      -- the pair
      · rintro σ H6 ⟨y6, y7, ar, ws, l, rfl, g6, hR6, har, hws, hl, hlen⟩
        obtain ⟨ks, rfl, e2, hk⟩ := pairs_ks hws
        have lks : ks.length ≤ 16 := by
          have := congrArg List.length e2
          rw [List.length_map, List.length_map] at this
          omega
        refine ⟨_, rfl, _, rfl, ar, ks, rfl, SqL.of har, hk, by omega, fun S L nS hsub hall => ?_⟩
        have e7 : Ex H6 (upd H6 S (SetTO P w S L)) := Ex.new nS
        have two : ∀ q ∈ L, q.2 = [(arrOf q).1, (arrOf q).2] ∧ arrOf q ∈ l := fun q hq => by
          have m : q.2 ∈ ks.map (·.2) := List.mem_map.mpr ⟨q, hsub q hq, rfl⟩
          rw [e2] at m
          obtain ⟨p, hp, e⟩ := List.mem_map.mp m
          have ea : arrOf q = p := by
            unfold arrOf
            rw [← e]
            rfl
          rw [ea]
          exact ⟨e.symm, hp⟩
        refine ⟨S, L, 2, 64, rfl, upd_same, fun q hq => ex_t e7 (hk q (hsub q hq)), by decide, fun q hq => ?_, fun L' T pm nd h64 hpw nT => ?_⟩
        · obtain ⟨h1, h2⟩ := two q hq
          obtain ⟨x1, x2, x3, x4, _⟩ := hl _ h2
          rw [h1]
          refine ⟨rfl, fun m hm => ?_⟩
          rcases List.mem_cons.mp hm with z | z
          · rw [z]
            exact ⟨x1, by omega⟩
          · rw [List.mem_singleton.mp z]
            exact ⟨x3, by omega⟩
        · have e8 := e7.trans (Ex.new (o := .lst (L'.map fun q => V.ref q.1)) nT)
          refine ⟨T, _, rfl, .inl ⟨SqL.of upd_same, fun M nM => ?_⟩⟩
          have e9 := e8.trans (Ex.new (o := .tup (L'.map fun q => V.ref q.1)) nM)
          refine ⟨(by show 2 ≤ sizeLine; decide), fun Z nZ => ?_⟩
          have e10 := e9.trans (Ex.new (o := .tup [V.int n, V.ref M]) nZ)
          have mem : ∀ q ∈ L', q ∈ L := fun q hq => pm.mem_iff.mp hq
          refine q _ n (L'.map arrOf) _ (web_of n1 n4 (fun q hq => (two q (mem q hq)).1) (fun a ha => ?_) nd h64 hpw) (g6.trans (.ex e10)) (hR6.ex e10) (dt_pair (SqT.of upd_same) (dt_int _) (dt_tup (ex_t (Ex.new nZ) (SqT.of upd_same)) (ks_dts L' fun q hq => ⟨ex_t e10 (hk q (hsub q (mem q hq))), (two q (mem q hq)).1⟩)))
          obtain ⟨q, hq, e⟩ := List.mem_map.mp ha
          rw [← e]
          exact hl _ (two q (mem q hq)).2
end
end Kw

/-! ## KwH -/
set_option Elab.async false
set_option linter.all false
set_option maxRecDepth 100000
set_option maxHeartbeats 8000000
namespace Kw
open PySem PySem.Spec PyProof.Rows L2
open Evl (Ex ex_t ex_l fresh_back)
/-! ### what _law_alike is asked -/
theorem okd_int (k : Nat) (i : Int) : OkD (k + 1) (PySem.W.Datum.toD i) := OkD.int i
theorem okd_arr (k : Nat) (p : Arr) : OkD (k + 2) (PySem.W.Datum.toD p) := by
  refine OkD.tup (ds := [PySem.W.Datum.toD p.1, PySem.W.Datum.toD p.2]) (by show (2:Nat) ≤ 1000; decide) fun d hd => ?_
  rcases List.mem_cons.mp hd with z | z
  · rw [z]
    exact okd_int k _
  · rw [List.mem_singleton.mp z]
    exact okd_int k _
theorem okd_list {α : Type} [DecidableEq α] [PySem.W.Datum α] {k : Nat} (h : ∀ x : α, OkD k (PySem.W.Datum.toD x)) (l : List α) (hl : l.length ≤ 1000) : OkD (k + 1) (PySem.W.Datum.toD (PySem.W.Tup.mk l : TupL α)) := by
  refine OkD.tup (ds := l.map PySem.W.Datum.toD) (by rw [List.length_map]; exact hl) fun d hd => ?_
  obtain ⟨x, _, e⟩ := List.mem_map.mp hd
  rw [← e]
  exact h x
theorem okd_form (f : FormD) (h1 : f.1.2.items.length ≤ 1000) (h2 : f.2.items.length ≤ 1000) : OkD 5 (PySem.W.Datum.toD f) := by
  have w1 : OkD 4 (PySem.W.Datum.toD f.1) := by
    refine OkD.tup (ds := [PySem.W.Datum.toD f.1.1, PySem.W.Datum.toD f.1.2]) (by show (2:Nat) ≤ 1000; decide) fun d hd => ?_
    rcases List.mem_cons.mp hd with z | z
    · rw [z]
      exact okd_int 2 _
    · rw [List.mem_singleton.mp z]
      exact okd_list (k := 2) (okd_arr 0) f.1.2.items h1
  refine OkD.tup (ds := [PySem.W.Datum.toD f.1, PySem.W.Datum.toD f.2]) (by show (2:Nat) ≤ 1000; decide) fun d hd => ?_
  rcases List.mem_cons.mp hd with z | z
  · rw [z]
    exact w1
  · rw [List.mem_singleton.mp z]
    exact okd_list (k := 3) (okd_int 2) f.2.items h2
theorem named_okd (n : Int) {as : List Arr} {bs os : List Int} (h1 : as.length ≤ 64) (h2 : bs.length ≤ 64) : OkD 5 (PySem.W.Datum.toD (namedM n as bs os)) := by
  refine okd_form _ ?_ ?_
  · show (srt _).length ≤ 1000
    rw [srt_len, List.length_map]
    omega
  · show (srt _).length ≤ 1000
    rw [srt_len, List.length_map]
    omega
theorem minOf_mem {α : Type} [DecidableEq α] [PySem.W.DatumOrd α] : ∀ (l : List α) (x : α), PySem.W.minOf x l ∈ x :: l
  | [], x => List.mem_cons_self
  | y :: l, x => by
    show (y :: l).foldl (fun a y => if PySem.W.DatumOrd.lt y a = true then y else a) x ∈ _
    rw [List.foldl_cons]
    have h := minOf_mem l (if PySem.W.DatumOrd.lt y x = true then y else x)
    unfold PySem.W.minOf at h
    rcases List.mem_cons.mp h with z | z
    · rw [z]
      split
      · exact List.mem_cons_of_mem _ List.mem_cons_self
      · exact List.mem_cons_self
    · exact List.mem_cons_of_mem _ (List.mem_cons_of_mem _ z)
theorem least_okd {n : Int} {as : List Arr} {bs : List Int} (W : WebOk n as) (N : BurnOk n bs) : OkD 5 (PySem.W.Datum.toD (leastM n as bs)) := by
  obtain ⟨x, l, e1, e2⟩ := forms_ne (as := as) (bs := bs) W.n1 W.n4
  have m := minOf_mem l x
  rw [← e1] at m
  rw [e2]
  unfold forms at m
  obtain ⟨os, _, e⟩ := List.mem_map.mp m
  rw [← e]
  exact named_okd n W.len N.len
theorem web_sq {K : PySem.W.Frag} {H : Hp} {a : Addr} {n : Int} {as : List Arr} (h : DT K H (.ref a) ((n, PySem.W.Tup.mk as) : WebD)) : ∃ t, SqT K H a [.int n, .ref t] := by
  obtain ⟨b, t, vs, e, hS, _, _⟩ := web_inv h
  cases e
  exact ⟨t, hS⟩
theorem POs.app {H : Hp} {vs ws : List V} {l m : List (List Int)} (h : POs H vs l) (q : POs H ws m) : POs H (vs ++ ws) (l ++ m) := by
  refine ⟨by rw [List.length_append, List.length_append, h.1, q.1], fun i v os h1 h2 => ?_⟩
  by_cases hi : i < vs.length
  · rw [List.getElem?_append_left hi] at h1
    rw [List.getElem?_append_left (by rw [← h.1]; exact hi)] at h2
    exact h.2 i v os h1 h2
  · rw [List.getElem?_append_right (by omega)] at h1
    rw [List.getElem?_append_right (by rw [← h.1]; omega), ← h.1] at h2
    exact q.2 _ v os h1 h2
theorem dt_gr {α : Type} [DecidableEq α] [PySem.W.Datum α] [Kp α] {K : PySem.W.Frag} {r sc : Addr} {H H' : Hp} {v : V} {x : α} (g : Grow r H H') (hR : RowSt r sc H) (h : DT K H v x) : DT K H' v x := by
  obtain ⟨xs, e⟩ := hR.lst
  exact Kp.keep (fun _ _ q => grow_t g e q) h
theorem dts_gr {α : Type} [DecidableEq α] [PySem.W.Datum α] [Kp α] {K : PySem.W.Frag} {r sc : Addr} {H H' : Hp} {vs : List V} {l : List α} (g : Grow r H H') (hR : RowSt r sc H) (h : DTs K H vs l) : DTs K H' vs l := by
  obtain ⟨xs, e⟩ := hR.lst
  exact dts_keep (fun _ _ q => grow_t g e q) h
theorem pos_gr {r sc : Addr} {H H' : Hp} {vs : List V} {l : List (List Int)} (g : Grow r H H') (hR : RowSt r sc H) (h : POs H vs l) : POs H' vs l := by
  obtain ⟨xs, e⟩ := hR.lst
  exact ⟨h.1, fun i v os h1 h2 => by
    obtain ⟨a, e1, q⟩ := h.2 i v os h1 h2
    exact ⟨a, e1, grow_pt g e q⟩⟩
theorem sc_new {K : PySem.W.Frag} {H : Hp} {sc r : Addr} {ns : List Int} {o : HO} (h : SqL K H sc (ns.map V.int)) (n : H r = none) : Sc K r (L2.upd H r o) sc ns := fun H' g => by
  have go : ∀ u, H sc = some u → H' sc = some u := fun u e => by
    have ne : sc ≠ r := ne_of_none e n
    exact g sc u ne (by rw [upd_ne ne]; exact e)
  rcases h with (h | ⟨u, h⟩) | h
  · exact .inl (.inl (go _ h))
  · exact .inl (.inr ⟨u, go _ h⟩)
  · exact .inr h
theorem dp_dec {K : PySem.W.Frag} {H : Hp} {p : Prop} (i j : Decidable p) : Dp K H (.bl (@decide p i)) (.bool (@decide p j)) := by
  have e : @decide p i = @decide p j := decide_eq_decide.mpr Iff.rfl
  rw [e]
  exact Dp.bl _
/-- a pair (web, standing) that the law shows -/
def Elt (K : PySem.W.Frag) (H : Hp) (v : V) : Prop := ∃ (n : Int) (as : List Arr) (bs : List Int), DT K H v (formD n as bs) ∧ WebOk n as ∧ BurnOk n bs
theorem Elt.ex {K : PySem.W.Frag} {H H' : Hp} {v : V} (h : Elt K H v) (e : Ex H H') : Elt K H' v := by
  obtain ⟨n, as, bs, d, W, N⟩ := h
  exact ⟨n, as, bs, dt_ex e d, W, N⟩
theorem Elt.gr {K : PySem.W.Frag} {r sc : Addr} {H H' : Hp} {v : V} (h : Elt K H v) (g : Grow r H H') (hR : RowSt r sc H) : Elt K H' v := by
  obtain ⟨n, as, bs, d, W, N⟩ := h
  exact ⟨n, as, bs, dt_gr g hR d, W, N⟩
/-- the defs that the law calls -/
structure Lw (K : PySem.W.Frag) (mg : Str → Option Value) (fi fa fw fb fo fn fr fm fl ff f1 f2 f3 ft fp fv fu fq fx : Addr) (di da dw db do_ dn dr dm dl df d1 d2 d3 dt dp dv du dq dx : FuncData) : Prop where
  C : Chk K mg fi fa fw fb fo di da dw db do_
  named : Has K mg "named" sNamed ["web", "burning", "order"] fn dn
  order : Has K mg "need_order" sNeedOrder ["web", "order"] fr dr
  renamed : Has K mg "renamed" sRenamed ["web", "burning", "order"] fm dm
  orders : Has K mg "all_orders" sAllOrders ["many"] fl dl
  few : Has K mg "need_few" sNeedFew ["web"] ff df
  renamings : Has K mg "renamings" sRenamings ["web", "burning"] f1 d1
  least : Has K mg "least_form" sLeastForm ["web", "burning"] f2 d2
  are : Has K mg "are_alike" sAreAlike ["web", "burning", "other_web", "other_burning"] f3 d3
  taken : Has K mg "_law_taken" sTaken ["_law_row", "_law_many"] ft dt
  pick : Has K mg "_law_pick" sPick ["_law_row", "_law_things"] fp dp
  web : Has K mg "_law_web" sWeb ["_law_row", "_law_most"] fv dv
  burning : Has K mg "_law_burning" sBurning ["_law_row", "_law_many"] fu du
  alike : Has K mg "_law_alike" sAlike ["_law_found", "_law_due"] fq dq
  lnamed : Has K mg "_law_named" sLNamed ["_law_web_here", "_law_burning_here", "_law_order"] fx dx
section
variable {P : Program} {w : World} {K : PySem.W.Frag} {mg : Str → Option Value} {base : Heap}
def spLNamed (K : PySem.W.Frag) : Sp := fun vs H Q _ => ∃ (v u : V) (o : Addr) (n : Int) (as : List Arr) (bs os : List Int), vs = [v, u, .ref o] ∧ DT K H v ((n, PySem.W.Tup.mk as) : WebD) ∧ DT K H u (PySem.W.Tup.mk bs : TupL Int) ∧ PT H o (os.map V.int) ∧
  WebOk n as ∧ BurnOk n bs ∧ OrdOk n os ∧ ∀ z H', Ex H H' → DT K H' z (namedM n as bs os) → Q z H'
def spLaw (K : PySem.W.Frag) : Sp := fun vs H Q _ => ∃ (a : Addr) (ns : List Int), vs = [.ref a] ∧ SqL K H a (ns.map V.int) ∧ ns.length ≤ 63 ∧ ∀ H', Q (.bl true) H'
/-! ### the law -/
theorem ok_law {f fi fa fw fb fo fn fr fm fl ff f1 f2 f3 ft fp fv fu fq fx : Addr} {fd di da dw db do_ dn dr dm dl df d1 d2 d3 dt dp dv du dq dx : FuncData} (F : Fun K "law" "law" sLaw f fd) (B : Blt mg)
    (L : Lw K mg fi fa fw fb fo fn fr fm fl ff f1 f2 f3 ft fp fv fu fq fx di da dw db do_ dn dr dm dl df d1 d2 d3 dt dp dv du dq dx) : FnOk P w K mg base CX0 6 f fd ["_law_script"] (spLaw K) := by
  have GM : FnOk P w K mg base CX0 5 fm dm ["web", "burning", "order"] (spRenamed K) := ok_renamed L.renamed.F B L.C L.order L.named
  have G1 : FnOk P w K mg base CX0 5 f1 d1 ["web", "burning"] (spRenamings K) := ok_renamings L.renamings.F B L.C L.few L.orders L.named
  have G2 : FnOk P w K mg base CX0 5 f2 d2 ["web", "burning"] (spLeast K) := ok_least L.least.F B L.C L.few L.orders L.named
  have G3 : FnOk P w K mg base CX0 5 f3 d3 ["web", "burning", "other_web", "other_burning"] (spAreAlike K) := ok_areAlike L.are.F B L.C L.few L.orders L.named
  have GP : FnOk P w K mg base CX0 2 fp dp ["_law_row", "_law_things"] (spPick K) := ok_pick L.pick.F B L.taken
  have GV : FnOk P w K mg base CX0 3 fv dv ["_law_row", "_law_most"] (spWeb K) := ok_web L.web.F B L.taken L.pick
  have GU : FnOk P w K mg base CX0 3 fu du ["_law_row", "_law_many"] (spBurning K) := ok_burning L.burning.F B L.taken L.pick
  have GQ : FnOk P w K mg base CX0 5 fq dq ["_law_found", "_law_due"] (spAlike K 5) := ok_alike L.alike B 5
  have GX : FnOk P w K mg base CX0 1 fx dx ["_law_web_here", "_law_burning_here", "_law_order"] (spLNamed K) := ok_lnamed L.lnamed.F B
  refine F.ok scLaw (fun vs H Q E h => ?_) (fun cdv A outer s H vs Q E hr h => ?_)
  · obtain ⟨a, ns, rfl, _⟩ := h
    rfl
  · obtain ⟨sc, ns, rfl, hsc, hlen, q⟩ := h
    have hr1 : Room 1 _ := hr.mono (by decide)
    have hr2 : Room 2 _ := hr.mono (by decide)
    have hr3 : Room 3 _ := hr.mono (by decide)
    refine' ⟨_, pss_cons (ps_set (i := 1) scLaw.nd rfl (Or.inl rfl) (pe_lst (pa_cons (pv 0) (pa_cons pe_int (pa_cons pe_int (pa_cons pe_int pa_nil)))))) ?t1, ?g⟩
    case' t1 => refine' pss_cons (ps_set (i := 2) scLaw.nd rfl (Or.inr rfl) (pe_call GV hr3 (by rfl) L.web.g L.web.F.kp L.web.b .nil pass0 (pa_cons (pv 1) (pa_cons pe_int pa_nil)))) ?t2
    case' t2 => refine' pss_cons (ps_asg (pe_tup (pa_cons (pe_call GU hr3 (by rfl) L.burning.g L.burning.F.kp L.burning.b .nil pass0 (pa_cons (pv 1) (pa_cons (pe_ix ix_tup (pv 2) pe_int (fun _ _ => rfl)) pa_nil))) (pa_cons (pe_lst (pa_cons (pe_tupF pa_nil) pa_nil)) pa_nil)))
        (pg_tup rfl (pgs_cons (pg_name (i := 3) scLaw.nd rfl (Or.inr rfl)) (pgs_cons (pg_name (i := 4) scLaw.nd rfl (Or.inl rfl)) pgs_nil)))) ?t3
    case' t3 => refine' pss_cons (ps_for PassesOwn.never rfl (pi_range1 (by rfl) B.range (pa_cons (pe_ix ix_tup (pv 2) pe_int (fun _ _ => rfl)) pa_nil)) (pg_name (i := 5) scLaw.nd rfl (Or.inl rfl))
        (pss_cons (ps_set (i := 6) scLaw.nd rfl (Or.inl rfl) (pe_lst pa_nil))
        (pss_cons (ps_for PassesOwn.never rfl (pi_list (pv 4)) (pg_name (i := 7) scLaw.nd rfl (Or.inr rfl))
          (pss_one (ps_set (i := 6) scLaw.nd rfl (Or.inl rfl) (pe_op op_cat (pv 6)
            (pe_lc (own := [("_law_x", 13)]) (g := gName 13) rfl scLaw.nd (pi_range1 (by rfl) B.range (pa_cons (pe_ix ix_tup (pv 2) pe_int (fun _ _ => rfl)) pa_nil))
              (blkOk_by (own := [("_law_x", 13)]) (N := ["_law_script", "_law_row", "_law_web_here", "_law_burning_here", "_law_orders", "_law_k", "_law_more", "_law_one", "_law_order", "_law_some", "_law_other", "_law_there", "_law_shows", "_law_x"]) (sc := defScope sLaw) (by decide +kernel))
              (fun _ _ _ _ _ => pg_name (i := 13) scLaw.nd rfl (Or.inl rfl)) (fun _ _ _ _ _ => pts_one (pt_cmpR (r := rNotInI K) (op_notInI hr.units) (pv 13) (pv 7) rfl)) (fun _ _ _ _ _ => pe_op op_catF (pv 7) (pe_tupF (pa_cons (pv 13) pa_nil))))))))
        (pss_one (ps_set (i := 4) scLaw.nd rfl (Or.inl rfl) (pv 6)))))) ?t4
    case' t4 => refine' pss_cons (ps_par (i := 9) (j := 8) rfl scLaw.nd rfl rfl (by decide) rfl rfl (pa_cons
          (pe_lc (own := [("_law_order", 8)]) (g := gName 8) (tt := tYes) rfl scLaw.nd (pi_list (pv 4))
            (blkOk_by (own := [("_law_order", 8)]) (N := ["_law_script", "_law_row", "_law_web_here", "_law_burning_here", "_law_orders", "_law_k", "_law_more", "_law_one", "_law_order", "_law_some", "_law_other", "_law_there", "_law_shows", "_law_x"]) (sc := defScope sLaw) (by decide +kernel))
            (fun _ _ _ _ _ => pg_name (i := 8) scLaw.nd rfl (Or.inl rfl)) (fun _ _ _ _ _ => pts_nil) (fun _ _ _ _ _ => pe_call GX hr1 (by rfl) L.lnamed.g L.lnamed.F.kp L.lnamed.b .nil pass0 (pa_cons (pv 2) (pa_cons (pv 3) (pa_cons (pv 8) pa_nil)))))
          (pa_cons (pe_call GP hr2 (by rfl) L.pick.g L.pick.F.kp L.pick.b .nil pass0 (pa_cons (pv 1) (pa_cons (pv 4) pa_nil))) pa_nil)) (by rfl)) ?t5
    case' t5 => refine' pss_cons (ps_if (pt_not (pt_val (pe_call GQ hr (by rfl) L.alike.g L.alike.F.kp L.alike.b .nil pass0 (pa_cons (pe_call GM hr (by rfl) L.renamed.g L.renamed.F.kp L.renamed.b .nil pass0 (pa_cons (pv 2) (pa_cons (pv 3) (pa_cons (pv 8) pa_nil))))
          (pa_cons (pe_call GX hr1 (by rfl) L.lnamed.g L.lnamed.F.kp L.lnamed.b .nil pass0 (pa_cons (pv 2) (pa_cons (pv 3) (pa_cons (pv 8) pa_nil)))) pa_nil))))) pss_never pss_nil) ?t6
    case' t6 => refine' pss_cons (ps_if (pt_not (pt_val (pe_call GQ hr (by rfl) L.alike.g L.alike.F.kp L.alike.b .nil pass0 (pa_cons (pe_call G1 hr (by rfl) L.renamings.g L.renamings.F.kp L.renamings.b .nil pass0 (pa_cons (pv 2) (pa_cons (pv 3) pa_nil)))
          (pa_cons (pe_bm PySem.F.plainAttrs_list PySem.F.slot_list_count PySem.F.type_list_count (mt_countT (α := FormD) hr.units (by decide)) (pv 9) (pa_cons (pe_tup (pa_cons (pv 2) (pa_cons (pv 3) pa_nil))) pa_nil)) pa_nil))))) pss_never pss_nil) ?t7
    case' t7 => refine' pss_cons (ps_if (pt_not (pt_val (pe_call GQ hr (by rfl) L.alike.g L.alike.F.kp L.alike.b .nil pass0 (pa_cons (pe_call G2 hr (by rfl) L.least.g L.least.F.kp L.least.b .nil pass0 (pa_cons (pv 2) (pa_cons (pv 3) pa_nil)))
          (pa_cons (pe_callB (cr_minT (α := FormD) rfl hr.units (by decide)) (by rfl) B.min bt_min (pa_cons (pv 9) pa_nil)) pa_nil))))) pss_never pss_nil) ?t8
    case' t8 => refine' pss_cons (ps_set (i := 10) scLaw.nd rfl (Or.inl rfl) (pe_call GV hr3 (by rfl) L.web.g L.web.F.kp L.web.b .nil pass0 (pa_cons (pv 1) (pa_cons pe_int pa_nil)))) ?t9
    case' t9 => refine' pss_cons (ps_for PassesOwn.never rfl (pi_list (pe_lst (pa_cons (pe_call GP hr2 (by rfl) L.pick.g L.pick.F.kp L.pick.b .nil pass0 (pa_cons (pv 1) (pa_cons (pv 9) pa_nil)))
          (pa_cons (pe_tup (pa_cons (pv 2) (pa_cons (pe_call GU hr3 (by rfl) L.burning.g L.burning.F.kp L.burning.b .nil pass0 (pa_cons (pv 1) (pa_cons (pe_ix ix_tup (pv 2) pe_int (fun _ _ => rfl)) pa_nil))) pa_nil)))
          (pa_cons (pe_tup (pa_cons (pv 10) (pa_cons (pe_call GU hr3 (by rfl) L.burning.g L.burning.F.kp L.burning.b .nil pass0 (pa_cons (pv 1) (pa_cons (pe_ix ix_tup (pv 10) pe_int (fun _ _ => rfl)) pa_nil))) pa_nil))) pa_nil)))))
          (pg_tup rfl (pgs_cons (pg_name (i := 11) scLaw.nd rfl (Or.inl rfl)) (pgs_cons (pg_name (i := 12) scLaw.nd rfl (Or.inl rfl)) pgs_nil)))
          (pss_one (ps_if (pt_not (pt_val (pe_call GQ hr (by rfl) L.alike.g L.alike.F.kp L.alike.b .nil pass0 (pa_cons (pe_call G3 hr (by rfl) L.are.g L.are.F.kp L.are.b .nil pass0 (pa_cons (pv 2) (pa_cons (pv 3) (pa_cons (pv 11) (pa_cons (pv 12) pa_nil)))))
            (pa_cons (pe_cmpR (op_inT (α := FormD) hr.units (by decide)) (pe_tup (pa_cons (pv 11) (pa_cons (pv 12) pa_nil))) (pv 9) rfl) pa_nil))))) pss_never pss_nil))) ?t10
    case t10 =>
     refine pss_one (ps_ret pe_bl)
    case g =>
      -- row = [script, 0, 9137, 0]
      refine ⟨_, rfl, (by show 4 ≤ sizeLine; decide), fun r nr => ?_⟩
      have hS1 : Sc K r (upd H r (.lst (rowL sc 0 9137 0))) sc ns := sc_new hsc nr
      have hR1 : RowSt r sc (upd H r (.lst (rowL sc 0 9137 0))) := ⟨0, 9137, 0, upd_same, by decide, by decide, by decide⟩
      show tSeq _ _ _ _ (upd H r (.lst (rowL sc 0 9137 0)))
      revert hS1 hR1
      generalize upd H r (.lst (rowL sc 0 9137 0)) = H1
      intro hS1 hR1
      -- the web, the standing, the first orders
      refine ⟨_, rfl, r, sc, ns, rfl, hR1, hS1, fun vw n as H2 W g2 hR2 hw => ?_⟩
      have n1 := W.n1
      have n4 := W.n4
      obtain ⟨aw, tw, vsw, rfl, hSw, _, _⟩ := web_inv hw
      refine ⟨_, rfl, _, rfl, aw, _, 0, _, rfl, rfl, hSw, rfl, r, sc, ns, n, rfl, hR2, hS1.grow g2, n1, n4, fun vb bs H3 N g3 hR3 hb => ?_⟩
      have hw3 := dt_gr g3 hR2 hw
      refine ⟨Nat.zero_le _, fun u0 H4 e4 hu0 => ⟨(by show 1 ≤ sizeLine; decide), fun p0 np0 => ⟨(by show 2 ≤ sizeLine; decide), fun T nT => ?_⟩⟩⟩
      have p0r : p0 ≠ r := (hR3.ex e4).ne np0
      have hOi : POs H4 [V.ref u0] [([] : List Int)] := ⟨rfl, fun i v os h1 h2 => by
        have hi : i = 0 := by
          have := (List.getElem?_eq_some_iff.mp h1).1
          rw [List.length_singleton] at this
          omega
        subst hi
        have ev : V.ref u0 = v := Option.some.inj h1
        have eo : ([] : List Int) = os := Option.some.inj h2
        subst ev eo
        exact ⟨u0, rfl, hu0⟩⟩
      refine ⟨T, [vb, .ref p0], rfl, SqT.of upd_same, rfl, vb, _, rfl, .ref p0, _, rfl, rfl, ?_⟩
      have e5 : Ex H3 (upd (upd H4 p0 (.lst [.ref u0])) T (.tup [vb, .ref p0])) := (e4.trans (Ex.new np0)).trans (Ex.new nT)
      have hO5 : POs (upd (upd H4 p0 (.lst [.ref u0])) T (.tup [vb, .ref p0])) [V.ref u0] [([] : List Int)] := hOi.ex ((Ex.new np0).trans (Ex.new nT))
      have hp5 : (upd (upd H4 p0 (.lst [.ref u0])) T (.tup [vb, .ref p0])) p0 = some (.lst [.ref u0]) := (Ex.new nT) _ _ upd_same
      show tSeq _ _ _ [some (.ref sc), some (.ref r), some (.ref aw), some vb, some (.ref p0), none, none, none, none, none, none, none, none, none] (upd (upd H4 p0 (.lst [.ref u0])) T (.tup [vb, .ref p0]))
      revert e5 hO5 hp5
      generalize upd (upd H4 p0 (.lst [.ref u0])) T (.tup [vb, .ref p0]) = H5
      intro e5 hO5 hp5
      have hR5 := hR3.ex e5
      have hw5 := dt_ex e5 hw3
      have hb5 := dt_ex e5 hb
      obtain ⟨tw5, hSw5⟩ := web_sq hw5
      have hl4 : n.toNat ≤ 4 := by omega
      -- all the orders
      refine ⟨_, rfl, aw, _, 0, _, rfl, rfl, hSw5, rfl, n, rfl, by omega, by omega, ?_⟩
      refine for_it walk_range (fun k σ H' => Ex H5 H' ∧ ∃ y5 y6 y7 p ws, σ = [some (.ref sc), some (.ref r), some (.ref aw), some vb, some (.ref p), y5, y6, y7, none, none, none, none, none, none] ∧ p ≠ r ∧ H' p = some (.lst ws) ∧ POs H' ws (orders n.toNat k))
        ⟨Ex.refl _, none, none, none, p0, _, rfl, p0r, hp5, hO5⟩ (fun _ _ _ _ _ => trivial) (fun k z σ H' H'' hk hP hY => ?_) (fun σ H6 hP => ?_)
      · obtain ⟨e6, y5, y6, y7, p, ws, rfl, npr, hp, hO⟩ := hP
        obtain ⟨rfl, rfl⟩ := hY
        obtain ⟨len24, lenk⟩ := orders_len hl4 (Nat.le_of_lt hk)
        refine ⟨Nat.zero_le _, fun m0 nm0 => ?_⟩
        have e7 : Ex H'' (upd H'' m0 (.lst [])) := Ex.new nm0
        have m0r : m0 ≠ r := (hR5.ex e6).ne nm0
        refine ⟨_, rfl, p, rfl, ⟨_, SqL.of (e7 _ _ hp)⟩, ?_⟩
        refine for_it (walk_list (K := K) (a := p) (xs := ws)) (fun i σ H' => Ex H'' H' ∧ ∃ y7 m vs, σ = [some (.ref sc), some (.ref r), some (.ref aw), some vb, some (.ref p), some (.int (0 + (k : Int))), some (.ref m), y7, none, none, none, none, none, none] ∧ m ≠ r ∧ H' m = some (.lst vs) ∧ POs H' vs (((orders n.toNat k).take i).flatMap (more n.toNat)))
          ⟨e7, y7, m0, [], rfl, m0r, upd_same, rfl, fun i v os h1 _ => by simp at h1⟩ (fun _ _ _ _ hP => ex_l hP.1 (SqL.of hp)) (fun i z σ H7 H8 hi hP hY => ?_) (fun σ H7 hP => ?_)
        · obtain ⟨e8, y7, m, vs, rfl, nmr, hm, hvs⟩ := hP
          obtain ⟨rfl, hz⟩ := hY
          obtain ⟨one, a, ho, rfl, ha⟩ := (hO.ex e8).at hz
          have l1 := lenk one (List.mem_of_getElem? ho)
          have hSw8 := ex_t (e6.trans e8) hSw5
          refine ⟨_, rfl, _, rfl, aw, _, 0, _, rfl, rfl, hSw8, rfl, n, rfl, by omega, by omega, fun D nD => ?_⟩
          refine lc_it walk_range (fun j H' => Ex H8 H' ∧ ∃ acc, H' D = some (.lst acc) ∧ POs H' acc (moreTo n.toNat one j)) ⟨Ex.new nD, [], upd_same, rfl, fun i v os h1 _ => by simp at h1⟩ (fun _ _ _ _ => trivial) (fun j x H9 H10 hj hP hY => ?_) (fun H9 hP => ?_)
          · obtain ⟨e9, acc, hD, hacc⟩ := hP
            obtain ⟨rfl, hx⟩ := hY
            have ez : V.int (0 + (j : Int)) = V.int (j : Int) := by rw [Int.zero_add]
            have hx2 : x = V.int (j : Int) := Eq.trans hx ez
            subst hx2
            have ha3 := ha.ex e9
            refine ⟨rfl, _, rfl, _, rfl, (j : Int), a, one, rfl, rfl, ha3.sq, _, rfl, ite2 (fun c => ?_) (fun c => ?_)⟩
            · have c' : (j : Int) ∉ one := of_decide_eq_true c
              refine ⟨_, rfl, _, rfl, (by show 1 ≤ 1000; decide), fun b H11 e11 hb => ?_⟩
              refine ⟨a, b, one.map V.int, [V.int (j : Int)], rfl, rfl, ha3.ex e11, hb, (by simp), (by rw [List.length_map, l1]; show k + 1 ≤ 1000; omega), fun z H12 e12 hz => ?_⟩
              have e13 := e11.trans e12
              refine ⟨acc, e13 _ _ hD, ?_, (e9.trans e13).mut nD, acc ++ [.ref z], upd_same, ?_⟩
              · have h2 := moreTo_len n.toNat one j
                rw [hacc.1, sizeLine_eq]
                omega
              · rw [moreTo_yes hj c']
                refine ((hacc.ex e13).snoc (a := z) (os := one ++ [(j : Int)]) ?_).updL (e13 _ _ hD)
                rw [List.map_append]
                exact hz
            · have c' : ¬ (j : Int) ∉ one := fun z => c (decide_eq_true z)
              refine ⟨e9, acc, hD, ?_⟩
              rw [moreTo_no hj c']
              exact hacc
          · obtain ⟨e9, acc, hD, hacc⟩ := hP
            have d1 := moreTo_len n.toNat one n.toNat
            have d2 := flatMap_len (f := more n.toNat) (l := (orders n.toNat k).take i) fun x _ => more_len n.toNat x
            have d3 : ((orders n.toNat k).take i).length * n.toNat ≤ 24 * 4 := Nat.mul_le_mul (by rw [List.length_take]; omega) hl4
            refine ⟨m, D, vs, acc, rfl, rfl, e9 _ _ hm, hD, (by rw [hvs.1, hacc.1, sizeLine_eq]; omega), fun T nT => ?_⟩
            have e10 : Ex H9 (upd H9 T (.lst (vs ++ acc))) := Ex.new nT
            refine ⟨(e8.trans e9).trans e10, some (.ref a), T, vs ++ acc, rfl, (hR5.ex ((e6.trans e8).trans e9)).ne nT, upd_same, ?_⟩
            rw [flat_take _ ho, ← moreTo_all]
            exact (hvs.ex (e9.trans e10)).app (hacc.ex e10)
        · obtain ⟨e8, y7, m, vs, rfl, nmr, hm, hvs⟩ := hP
          refine ⟨_, rfl, e6.trans e8, _, _, _, m, vs, rfl, nmr, hm, ?_⟩
          rw [hO.1, List.take_length] at hvs
          exact hvs
      · obtain ⟨e6, y5, y6, y7, p, ws, rfl, npr, hp, hO⟩ := hP
        obtain ⟨len24, hne, hok⟩ := orders_fact n1 n4
        have hw6 := dt_ex e6 hw5
        have hb6 := dt_ex e6 hb5
        have hR6 := hR5.ex e6
        have hS6 : Sc K r H6 sc ns := hS1.grow (((g2.trans g3).trans (.ex e5)).trans (.ex e6))
        have l24 : ws.length ≤ 24 := by
          rw [hO.1]
          exact len24
        have l1 : 1 ≤ ws.length := by
          rw [hO.1]
          exact List.length_pos_iff.mpr hne
        -- the named webs, one for each order, and a picked order
        refine ⟨_, rfl, p, rfl, ⟨_, SqL.of hp⟩, fun D nD => ?_⟩
        have nDr : D ≠ r := hR6.ne nD
        refine lcW (K := K) (g := gName 8) (walk_list (K := K) (a := p) (xs := ws)) (orders n.toNat n.toNat) hO.1.symm (fun _ => true) (namedM n as bs) nD (by omega) (fun H' e => ex_l e (SqL.of hp)) (fun i os z H' H'' Qy Qn ho e7 hY hy hn => ?_) (fun ys H7 e7 hD hys => ?_)
        · obtain ⟨rfl, hz⟩ := hY
          obtain ⟨os', b, ho', rfl, hbb⟩ := (hO.ex e7).at hz
          rw [ho] at ho'
          cases ho'
          refine ⟨rfl, ?_⟩
          exact ⟨_, rfl, _, rfl, _, rfl, _, vb, b, n, as, bs, os, rfl, dt_ex e7 hw6, dt_ex e7 hb6, hbb, W, N, hok os (List.mem_of_getElem? ho), fun z H4 e4 hz4 => hy rfl _ _ e4 hz4⟩
        rw [filter_yes] at hys
        have hR7 := hR6.ex e7
        refine ⟨_, rfl, _, rfl, r, sc, ns, p, ws, rfl, hR7, hS6.grow (.ex e7), e7 _ _ hp, npr, l1, by omega, fun i x H8 hx g8 hR8 => ?_⟩
        obtain ⟨os, o, ho, rfl, hos⟩ := (pos_gr g8 hR7 (hO.ex e7)).at hx
        have O := hok os (List.mem_of_getElem? ho)
        have hw8 := dt_gr g8 hR7 (dt_ex e7 hw6)
        have hb8 := dt_gr g8 hR7 (dt_ex e7 hb6)
        have hD8 : H8 D = some (.lst ys) := g8 _ _ nDr hD
        have hys8 : DTs K H8 ys (forms n as bs) := dts_gr g8 hR7 hys
        have hS8 : Sc K r H8 sc ns := hS6.grow ((Grow.ex e7).trans g8)
        refine ⟨_, _, rfl, ?_⟩
        show tSeq _ _ _ [some (.ref sc), some (.ref r), some (.ref aw), some vb, some (.ref p), y5, y6, y7, some (.ref o), some (.ref D), none, none, none, none] H8
        -- the first test: the package's renaming
        refine ⟨_, rfl, _, rfl, _, rfl, _, vb, o, n, as, bs, os, rfl, hw8, hb8, hos, W, N, O, fun z1 H9 e9 hz1 => ?_⟩
        refine ⟨_, rfl, _, rfl, _, rfl, _, vb, o, n, as, bs, os, rfl, dt_ex e9 hw8, dt_ex e9 hb8, hos.ex e9, W, N, O, fun z2 H10 e10 hz2 => ?_⟩
        refine ⟨z1, z2, _, rfl, named_okd n W.len N.len, dt_ex e10 hz1, hz2, fun H11 e11 => ⟨true, rfl, iteF ?_⟩⟩
        have e8 : Ex H8 H11 := (e9.trans e10).trans e11
        have hw11 := dt_ex e8 hw8
        have hb11 := dt_ex e8 hb8
        have hD11 := e8 _ _ hD8
        have hys11 := dts_ex e8 hys8
        have hR11 := hR8.ex e8
        have hS11 := hS8.grow (.ex e8)
        clear e9 e10 e11 hz1 hz2
        -- the second test: how many renamings leave all as it was
        refine ⟨_, rfl, _, rfl, _, vb, n, as, bs, rfl, hw11, hb11, W, N, fun H12 e12 => ?_⟩
        refine ⟨_, rfl, .inl ⟨rfl, _, SqL.of (e12 _ _ hD11)⟩, _, rfl, _, rfl, (by show 2 ≤ sizeLine; decide), fun T2 nT2 => ?_⟩
        have e13 : Ex H12 (upd H12 T2 (.tup [.ref aw, vb])) := Ex.new nT2
        have e113 := e12.trans e13
        refine ⟨D, _, formD n as bs, forms n as bs, ys, rfl, rfl, SqL.of (e113 _ _ hD11), dts_ex e113 hys11, dt_form (SqT.of upd_same) (dt_ex e113 hw11) (dt_ex e113 hb11), ?_⟩
        refine ⟨_, _, .int (((forms n as bs).countP fun y => decide (y = formD n as bs) : Nat) : Int), rfl, OkD.int _, Dp.int _, Dp.int _, fun H14 e14 => ⟨true, rfl, iteF ?_⟩⟩
        have e114 := e113.trans e14
        have hw14 := dt_ex e114 hw11
        have hb14 := dt_ex e114 hb11
        have hD14 := e114 _ _ hD11
        have hys14 := dts_ex e114 hys11
        have hR14 := hR11.ex e114
        have hS14 := hS11.grow (.ex e114)
        clear e12 e13 e14 nT2
        -- the third test: the least form
        refine ⟨_, rfl, _, rfl, _, vb, n, as, bs, rfl, hw14, hb14, W, N, fun z1 H15 e15 hz1 => ?_⟩
        obtain ⟨x0, l0, ef, el⟩ := forms_ne (as := as) (bs := bs) n1 n4
        have hys15 : DTs K H15 ys (x0 :: l0) := by
          rw [← ef]
          exact dts_ex e15 hys14
        refine ⟨_, rfl, D, ys, x0, l0, rfl, SqL.of (e15 _ _ hD14), hys15, fun z2 hz2 => ?_⟩
        have hz2' : DT K H15 z2 (leastM n as bs) := by
          rw [el]
          exact hz2
        refine ⟨z1, z2, _, rfl, least_okd W N, hz1, hz2', fun H16 e16 => ⟨true, rfl, iteF ?_⟩⟩
        have e116 := e15.trans e16
        have hw16 := dt_ex e116 hw14
        have hb16 := dt_ex e116 hb14
        have hD16 := e116 _ _ hD14
        have hys16 := dts_ex e116 hys14
        have hR16 := hR14.ex e116
        have hS16 := hS14.grow (.ex e116)
        clear e15 e16 hz1 hz2 hz2' hys15
        -- another web
        refine ⟨_, rfl, r, sc, ns, rfl, hR16, hS16, fun vo n' as' H17 W' g17 hR17 hwo => ?_⟩
        obtain ⟨ao, to, vso, rfl, hSo, _, _⟩ := web_inv hwo
        show tSeq _ _ _ [some (.ref sc), some (.ref r), some (.ref aw), some vb, some (.ref p), y5, y6, y7, some (.ref o), some (.ref D), some (.ref ao), none, none, none] H17
        have hw17 := dt_gr g17 hR16 hw16
        have hb17 := dt_gr g17 hR16 hb16
        have hD17 := g17 _ _ nDr hD16
        have hys17 := dts_gr g17 hR16 hys16
        have hS17 := hS16.grow g17
        -- three webs beside it
        have ly : ys.length = (forms n as bs).length := dts_len hys17
        have lf : (forms n as bs).length = ws.length := by
          unfold forms
          rw [List.length_map, hO.1]
        refine ⟨_, rfl, _, rfl, r, sc, ns, D, ys, rfl, hR17, hS17, hD17, nDr, by omega, by omega, fun i1 x1 H18 hx1 g18 hR18 => ?_⟩
        obtain ⟨f1, hf1, hd1⟩ := dts_get hys17 hx1
        obtain ⟨os1, ho1, ef1⟩ := List.mem_map.mp (List.mem_of_getElem? hf1)
        have O1 := hok os1 ho1
        have E18 : Elt K H18 x1 := ⟨n, (namedM n as bs os1).1.2.items, (namedM n as bs os1).2.items, dt_gr g18 hR17 (by rw [← ef1] at hd1; exact hd1), named_web W O1, named_burn n1 N O1⟩
        have hw18 := dt_gr g18 hR17 hw17
        have hb18 := dt_gr g18 hR17 hb17
        have hD18 := g18 _ _ nDr hD17
        have hys18 := dts_gr g18 hR17 hys17
        have hS18 := hS17.grow g18
        have hwo18 := dt_gr g18 hR17 hwo
        obtain ⟨tw18, hSw18⟩ := web_sq hw18
        refine ⟨_, rfl, _, rfl, _, rfl, aw, _, 0, _, rfl, rfl, hSw18, rfl, r, sc, ns, n, rfl, hR18, hS18, n1, n4, fun vb2 bs2 H19 N2 g19 hR19 hb2 => ?_⟩
        refine ⟨(by show 2 ≤ sizeLine; decide), fun T1 nT1 => ?_⟩
        have T1r : T1 ≠ r := hR19.ne nT1
        have e20 : Ex H19 (upd H19 T1 (.tup [.ref aw, vb2])) := Ex.new nT1
        have hR20 := hR19.ex e20
        have g20 := g19.trans (.ex e20)
        have E20 : Elt K (upd H19 T1 (.tup [.ref aw, vb2])) (.ref T1) := ⟨n, as, bs2, dt_form (SqT.of upd_same) (dt_gr g20 hR18 hw18) (dt_ex e20 hb2), W, N2⟩
        have E20a := E18.gr g20 hR18
        have hw20 := dt_gr g20 hR18 hw18
        have hb20 := dt_gr g20 hR18 hb18
        have hD20 := g20 _ _ nDr hD18
        have hys20 := dts_gr g20 hR18 hys18
        have hS20 := hS18.grow g20
        have hwo20 := dt_gr g20 hR18 hwo18
        obtain ⟨to20, hSo20⟩ := web_sq hwo20
        refine ⟨_, rfl, _, rfl, _, rfl, ao, _, 0, _, rfl, rfl, hSo20, rfl, r, sc, ns, n', rfl, hR20, hS20, W'.n1, W'.n4, fun vb3 bs3 H21 N3 g21 hR21 hb3 => ?_⟩
        refine ⟨(by show 2 ≤ sizeLine; decide), fun T2 nT2 => ?_⟩
        have e22 : Ex H21 (upd H21 T2 (.tup [.ref ao, vb3])) := Ex.new nT2
        have g22 := g21.trans (.ex e22)
        have E22 : Elt K (upd H21 T2 (.tup [.ref ao, vb3])) (.ref T2) := ⟨n', as', bs3, dt_form (SqT.of upd_same) (dt_gr g22 hR20 hwo20) (dt_ex e22 hb3), W', N3⟩
        have E22a := E20a.gr g22 hR20
        have E22b := E20.gr g22 hR20
        have hw22 := dt_gr g22 hR20 hw20
        have hb22 := dt_gr g22 hR20 hb20
        have hD22 := g22 _ _ nDr hD20
        have hys22 := dts_gr g22 hR20 hys20
        refine ⟨(by show 3 ≤ sizeLine; decide), fun L0 nL => ⟨L0, rfl, ⟨_, SqL.of upd_same⟩, ?_⟩⟩
        have eL : Ex (upd H21 T2 (.tup [.ref ao, vb3])) (upd (upd H21 T2 (.tup [.ref ao, vb3])) L0 (.lst [x1, .ref T1, .ref T2])) := Ex.new nL
        have hEl : ∀ x ∈ [x1, V.ref T1, V.ref T2], Elt K (upd (upd H21 T2 (.tup [.ref ao, vb3])) L0 (.lst [x1, .ref T1, .ref T2])) x := fun x hx => by
          rcases List.mem_cons.mp hx with z | hx
          · rw [z]
            exact E22a.ex eL
          rcases List.mem_cons.mp hx with z | hx
          · rw [z]
            exact E22b.ex eL
          · rw [List.mem_singleton.mp hx]
            exact E22.ex eL
        have hLL : SqL K (upd (upd H21 T2 (.tup [.ref ao, vb3])) L0 (.lst [x1, .ref T1, .ref T2])) L0 [x1, .ref T1, .ref T2] := SqL.of upd_same
        have hwL := dt_ex eL hw22
        have hbL := dt_ex eL hb22
        have hDL := eL _ _ hD22
        have hysL := dts_ex eL hys22
        clear eL
        revert hEl hLL hwL hbL hDL hysL
        generalize upd (upd H21 T2 (.tup [.ref ao, vb3])) L0 (.lst [x1, .ref T1, .ref T2]) = HL
        intro hEl hLL hwL hbL hDL hysL
        refine for_it (walk_list (K := K) (a := L0) (xs := [x1, .ref T1, .ref T2])) (fun i σ H' => Ex HL H' ∧ ∃ y11 y12, σ = [some (.ref sc), some (.ref r), some (.ref aw), some vb, some (.ref p), y5, y6, y7, some (.ref o), some (.ref D), some (.ref ao), y11, y12, none])
          ⟨Ex.refl _, none, none, rfl⟩ (fun _ _ _ _ hP => ex_l hP.1 hLL) (fun i z σ H' H'' hi hP hY => ?_) (fun σ H' hP => ?_)
        · obtain ⟨e1, y11, y12, rfl⟩ := hP
          obtain ⟨rfl, hz⟩ := hY
          obtain ⟨n3, as3, bs3', hd3, W3, N3'⟩ := (hEl z (List.mem_of_getElem? hz)).ex e1
          obtain ⟨a3, v3, u3, rfl, hS3, hv3, hu3⟩ := dt_pair_inv hd3
          refine ⟨a3, [v3, u3], rfl, hS3, rfl, v3, _, rfl, u3, _, rfl, rfl, ?_⟩
          refine ⟨_, rfl, _, rfl, _, rfl, _, rfl, _, vb, v3, u3, n, n3, as, as3, bs, bs3', rfl, dt_ex e1 hwL, dt_ex e1 hbL, hv3, hu3, W, N, W3, N3', fun H2' e2 => ?_⟩
          refine ⟨_, rfl, _, rfl, (by show 2 ≤ sizeLine; decide), fun T nT => ?_⟩
          have e3 : Ex H2' (upd H2' T (.tup [v3, u3])) := Ex.new nT
          have e13 := (e1.trans e2).trans e3
          refine ⟨_, rfl, formD n3 as3 bs3', forms n as bs, D, ys, rfl, SqL.of (e13 _ _ hDL), dts_ex e13 hysL, dt_form (SqT.of upd_same) (dt_ex (e2.trans e3) hv3) (dt_ex (e2.trans e3) hu3), ?_⟩
          refine ⟨_, _, .bool (decide (formD n3 as3 bs3' ∈ forms n as bs)), rfl, OkD.bool _, dp_dec _ _, dp_dec _ _, fun H4' e4' => ⟨true, rfl, iteF ?_⟩⟩
          exact ⟨e13.trans e4', _, _, rfl⟩
        · obtain ⟨_, y11, y12, rfl⟩ := hP
          exact q H'
end
end Kw

/-! ## KwE -/
set_option Elab.async false
set_option linter.all false
set_option maxRecDepth 100000
set_option maxHeartbeats 4000000
namespace Kw
open PySem PySem.Spec PyProof.Rows L2
/-! ### what the top has written -/
theorem all_mk {l : PySem.W.OpenLaw} {w : World} {K : PySem.W.Frag} {h : Heap} {mg : Str → Option Value} {fa : Addr} (X : K.In h) (G : h.Ns mainGlobals mg) (hfa : mg "law" = some (.ref fa))
    {f1 f2 f3 f4 f5 f6 f7 f8 f9 f10 f11 f12 f13 f14 f15 f16 f17 f18 f19 f20 : Addr} {od1 an1 od2 an2 od3 an3 od4 an4 od5 an5 od6 an6 od7 an7 od8 an8 od9 an9 od10 an10 od11 an11 od12 an12 od13 an13 od14 an14 od15 an15 od16 an16 od17 an17 od18 an18 od19 an19 od20 an20 : Option Addr} {sl1 sl2 sl3 sl4 sl5 sl6 sl7 sl8 sl9 sl10 sl11 sl12 sl13 sl14 sl15 sl16 sl17 sl18 sl19 sl20 : Array (Option Value)} {oc1 kV1 dc1 pm1 cd1 ct1 oc2 kV2 dc2 pm2 cd2 ct2 oc3 kV3 dc3 pm3 cd3 ct3 oc4 kV4 dc4 pm4 cd4 ct4 oc5 kV5 dc5 pm5 cd5 ct5 oc6 kV6 dc6 pm6 cd6 ct6 oc7 kV7 dc7 pm7 cd7 ct7 oc8 kV8 dc8 pm8 cd8 ct8 oc9 kV9 dc9 pm9 cd9 ct9 oc10 kV10 dc10 pm10 cd10 ct10 oc11 kV11 dc11 pm11 cd11 ct11 oc12 kV12 dc12 pm12 cd12 ct12 oc13 kV13 dc13 pm13 cd13 ct13 oc14 kV14 dc14 pm14 cd14 ct14 oc15 kV15 dc15 pm15 cd15 ct15 oc16 kV16 dc16 pm16 cd16 ct16 oc17 kV17 dc17 pm17 cd17 ct17 oc18 kV18 dc18 pm18 cd18 ct18 oc19 kV19 dc19 pm19 cd19 ct19 oc20 kV20 dc20 pm20 cd20 ct20 : Value} {t9 t6 : Tok}
    (a1 : PySem.W.nsIn K mainGlobals "is_in" = some (some (.ref f1))) (l1 : K.lookup f1 = some ⟨oc1, od1, .func (PySem.W.fnOf "is_in" "is_in" (defArgs sIsIn) (defBody sIsIn) (defScope sIsIn) .none kV1 dc1 pm1 an1 cd1 ct1), sl1⟩) (c1 : PySem.W.codeIn K cd1 "is_in" = true) (k1 : PySem.W.keepIn K (.ref f1) = true)
    (a2 : PySem.W.nsIn K mainGlobals "is_arrow" = some (some (.ref f2))) (l2 : K.lookup f2 = some ⟨oc2, od2, .func (PySem.W.fnOf "is_arrow" "is_arrow" (defArgs sIsArrow) (defBody sIsArrow) (defScope sIsArrow) .none kV2 dc2 pm2 an2 cd2 ct2), sl2⟩) (c2 : PySem.W.codeIn K cd2 "is_arrow" = true) (k2 : PySem.W.keepIn K (.ref f2) = true)
    (a3 : PySem.W.nsIn K mainGlobals "need_web" = some (some (.ref f3))) (l3 : K.lookup f3 = some ⟨oc3, od3, .func (PySem.W.fnOf "need_web" "need_web" (defArgs sNeedWeb) (defBody sNeedWeb) (defScope sNeedWeb) .none kV3 dc3 pm3 an3 cd3 ct3), sl3⟩) (c3 : PySem.W.codeIn K cd3 "need_web" = true) (k3 : PySem.W.keepIn K (.ref f3) = true)
    (a4 : PySem.W.nsIn K mainGlobals "need_burning" = some (some (.ref f4))) (l4 : K.lookup f4 = some ⟨oc4, od4, .func (PySem.W.fnOf "need_burning" "need_burning" (defArgs sNeedBurning) (defBody sNeedBurning) (defScope sNeedBurning) .none kV4 dc4 pm4 an4 cd4 ct4), sl4⟩) (c4 : PySem.W.codeIn K cd4 "need_burning" = true) (k4 : PySem.W.keepIn K (.ref f4) = true)
    (a5 : PySem.W.nsIn K mainGlobals "need_both" = some (some (.ref f5))) (l5 : K.lookup f5 = some ⟨oc5, od5, .func (PySem.W.fnOf "need_both" "need_both" (defArgs sNeedBoth) (defBody sNeedBoth) (defScope sNeedBoth) .none kV5 dc5 pm5 an5 cd5 ct5), sl5⟩) (c5 : PySem.W.codeIn K cd5 "need_both" = true) (k5 : PySem.W.keepIn K (.ref f5) = true)
    (a6 : PySem.W.nsIn K mainGlobals "named" = some (some (.ref f6))) (l6 : K.lookup f6 = some ⟨oc6, od6, .func (PySem.W.fnOf "named" "named" (defArgs sNamed) (defBody sNamed) (defScope sNamed) .none kV6 dc6 pm6 an6 cd6 ct6), sl6⟩) (c6 : PySem.W.codeIn K cd6 "named" = true) (k6 : PySem.W.keepIn K (.ref f6) = true)
    (a7 : PySem.W.nsIn K mainGlobals "need_order" = some (some (.ref f7))) (l7 : K.lookup f7 = some ⟨oc7, od7, .func (PySem.W.fnOf "need_order" "need_order" (defArgs sNeedOrder) (defBody sNeedOrder) (defScope sNeedOrder) .none kV7 dc7 pm7 an7 cd7 ct7), sl7⟩) (c7 : PySem.W.codeIn K cd7 "need_order" = true) (k7 : PySem.W.keepIn K (.ref f7) = true)
    (a8 : PySem.W.nsIn K mainGlobals "renamed" = some (some (.ref f8))) (l8 : K.lookup f8 = some ⟨oc8, od8, .func (PySem.W.fnOf "renamed" "renamed" (defArgs sRenamed) (defBody sRenamed) (defScope sRenamed) .none kV8 dc8 pm8 an8 cd8 ct8), sl8⟩) (c8 : PySem.W.codeIn K cd8 "renamed" = true) (k8 : PySem.W.keepIn K (.ref f8) = true)
    (a9 : PySem.W.nsIn K mainGlobals "all_orders" = some (some (.ref f9))) (l9 : K.lookup f9 = some ⟨oc9, od9, .func (PySem.W.fnOf "all_orders" "all_orders" (defArgs sAllOrders) (defBody sAllOrders) (defScope sAllOrders) .none kV9 dc9 pm9 an9 cd9 ct9), sl9⟩) (c9 : PySem.W.codeIn K cd9 "all_orders" = true) (k9 : PySem.W.keepIn K (.ref f9) = true)
    (a10 : PySem.W.nsIn K mainGlobals "need_few" = some (some (.ref f10))) (l10 : K.lookup f10 = some ⟨oc10, od10, .func (PySem.W.fnOf "need_few" "need_few" (defArgs sNeedFew) (defBody sNeedFew) (defScope sNeedFew) .none kV10 dc10 pm10 an10 cd10 ct10), sl10⟩) (c10 : PySem.W.codeIn K cd10 "need_few" = true) (k10 : PySem.W.keepIn K (.ref f10) = true)
    (a11 : PySem.W.nsIn K mainGlobals "renamings" = some (some (.ref f11))) (l11 : K.lookup f11 = some ⟨oc11, od11, .func (PySem.W.fnOf "renamings" "renamings" (defArgs sRenamings) (defBody sRenamings) (defScope sRenamings) .none kV11 dc11 pm11 an11 cd11 ct11), sl11⟩) (c11 : PySem.W.codeIn K cd11 "renamings" = true) (k11 : PySem.W.keepIn K (.ref f11) = true)
    (a12 : PySem.W.nsIn K mainGlobals "least_form" = some (some (.ref f12))) (l12 : K.lookup f12 = some ⟨oc12, od12, .func (PySem.W.fnOf "least_form" "least_form" (defArgs sLeastForm) (defBody sLeastForm) (defScope sLeastForm) .none kV12 dc12 pm12 an12 cd12 ct12), sl12⟩) (c12 : PySem.W.codeIn K cd12 "least_form" = true) (k12 : PySem.W.keepIn K (.ref f12) = true)
    (a13 : PySem.W.nsIn K mainGlobals "are_alike" = some (some (.ref f13))) (l13 : K.lookup f13 = some ⟨oc13, od13, .func (PySem.W.fnOf "are_alike" "are_alike" (defArgs sAreAlike) (defBody sAreAlike) (defScope sAreAlike) .none kV13 dc13 pm13 an13 cd13 ct13), sl13⟩) (c13 : PySem.W.codeIn K cd13 "are_alike" = true) (k13 : PySem.W.keepIn K (.ref f13) = true)
    (a14 : PySem.W.nsIn K mainGlobals "_law_taken" = some (some (.ref f14))) (l14 : K.lookup f14 = some ⟨oc14, od14, .func (PySem.W.fnOf "_law_taken" "_law_taken" (defArgs sTaken) (defBody sTaken) (defScope sTaken) .none kV14 dc14 pm14 an14 cd14 ct14), sl14⟩) (c14 : PySem.W.codeIn K cd14 "_law_taken" = true) (k14 : PySem.W.keepIn K (.ref f14) = true)
    (a15 : PySem.W.nsIn K mainGlobals "_law_pick" = some (some (.ref f15))) (l15 : K.lookup f15 = some ⟨oc15, od15, .func (PySem.W.fnOf "_law_pick" "_law_pick" (defArgs sPick) (defBody sPick) (defScope sPick) .none kV15 dc15 pm15 an15 cd15 ct15), sl15⟩) (c15 : PySem.W.codeIn K cd15 "_law_pick" = true) (k15 : PySem.W.keepIn K (.ref f15) = true)
    (a16 : PySem.W.nsIn K mainGlobals "_law_web" = some (some (.ref f16))) (l16 : K.lookup f16 = some ⟨oc16, od16, .func (PySem.W.fnOf "_law_web" "_law_web" (defArgs sWeb) (defBody sWeb) (defScope sWeb) .none kV16 dc16 pm16 an16 cd16 ct16), sl16⟩) (c16 : PySem.W.codeIn K cd16 "_law_web" = true) (k16 : PySem.W.keepIn K (.ref f16) = true)
    (a17 : PySem.W.nsIn K mainGlobals "_law_burning" = some (some (.ref f17))) (l17 : K.lookup f17 = some ⟨oc17, od17, .func (PySem.W.fnOf "_law_burning" "_law_burning" (defArgs sBurning) (defBody sBurning) (defScope sBurning) .none kV17 dc17 pm17 an17 cd17 ct17), sl17⟩) (c17 : PySem.W.codeIn K cd17 "_law_burning" = true) (k17 : PySem.W.keepIn K (.ref f17) = true)
    (a18 : PySem.W.nsIn K mainGlobals "_law_alike" = some (some (.ref f18))) (l18 : K.lookup f18 = some ⟨oc18, od18, .func (PySem.W.fnOf "_law_alike" "_law_alike" (defArgs sAlike) (defBody sAlike) (defScope sAlike) .none kV18 dc18 pm18 an18 cd18 ct18), sl18⟩) (c18 : PySem.W.codeIn K cd18 "_law_alike" = true) (k18 : PySem.W.keepIn K (.ref f18) = true)
    (a19 : PySem.W.nsIn K mainGlobals "_law_named" = some (some (.ref f19))) (l19 : K.lookup f19 = some ⟨oc19, od19, .func (PySem.W.fnOf "_law_named" "_law_named" (defArgs sLNamed) (defBody sLNamed) (defScope sLNamed) .none kV19 dc19 pm19 an19 cd19 ct19), sl19⟩) (c19 : PySem.W.codeIn K cd19 "_law_named" = true) (k19 : PySem.W.keepIn K (.ref f19) = true)
    (a20 : PySem.W.nsIn K mainGlobals "law" = some (some (.ref f20))) (l20 : K.lookup f20 = some ⟨oc20, od20, .func (PySem.W.fnOf "law" "law" (defArgs sLaw) (defBody sLaw) (defScope sLaw) .none kV20 dc20 pm20 an20 cd20 ct20), sl20⟩) (c20 : PySem.W.codeIn K cd20 "law" = true) (k20 : PySem.W.keepIn K (.ref f20) = true)
    (z_isi : PySem.W.nsIn K mainGlobals "isinstance" = some none)
    (z_int : PySem.W.nsIn K mainGlobals "int" = some none)
    (z_bool : PySem.W.nsIn K mainGlobals "bool" = some none)
    (z_str : PySem.W.nsIn K mainGlobals "str" = some none)
    (z_tuple : PySem.W.nsIn K mainGlobals "tuple" = some none)
    (z_list : PySem.W.nsIn K mainGlobals "list" = some none)
    (z_len : PySem.W.nsIn K mainGlobals "len" = some none)
    (z_enum : PySem.W.nsIn K mainGlobals "enumerate" = some none)
    (z_sorted : PySem.W.nsIn K mainGlobals "sorted" = some none)
    (z_range : PySem.W.nsIn K mainGlobals "range" = some none)
    (z_min : PySem.W.nsIn K mainGlobals "min" = some none)
    (z_set : PySem.W.nsIn K mainGlobals "set" = some none)
    (z_dict : PySem.W.nsIn K mainGlobals "dict" = some none)
    (y9 : PySem.W.nsIn K mainGlobals "MOST_LAMPS" = some (some (.int 9 t9))) (y6 : PySem.W.nsIn K mainGlobals "MOST_NAMED" = some (some (.int 6 t6))) :
    ∃ fd : FuncData, (∀ (s : Shared) (v : Value), BindsTo s fd ⟨[v], []⟩ [("_law_script", v)]) ∧ ∀ base : Heap, K.In base → base.Ns mainGlobals mg → FnOk l.prog w K mg base CX0 6 fa fd ["_law_script"] (spLaw K) := by
  have e := hfa.symm.trans (PySem.W.mg_of X G a20)
  cases e
  have bl : Blt mg := ⟨PySem.W.mg_none_of X G z_isi, PySem.W.mg_none_of X G z_int, PySem.W.mg_none_of X G z_bool, PySem.W.mg_none_of X G z_str, PySem.W.mg_none_of X G z_tuple, PySem.W.mg_none_of X G z_list, PySem.W.mg_none_of X G z_len, PySem.W.mg_none_of X G z_enum, PySem.W.mg_none_of X G z_sorted, PySem.W.mg_none_of X G z_range, PySem.W.mg_none_of X G z_min, PySem.W.mg_none_of X G z_set, PySem.W.mg_none_of X G z_dict, ⟨t9, PySem.W.mg_of X G y9⟩, ⟨t6, PySem.W.mg_of X G y6⟩⟩
  have HI : Has K mg "is_in" sIsIn ["value", "least", "most"] f1 _ := ⟨fun_mk (st := sIsIn) l1 c1 k1, PySem.W.mg_of X G a1, (fun_mk (st := sIsIn) l1 c1 k1).binds (ps := ["value", "least", "most"]) fun _ _ _ _ _ _ us hl => match us, hl with | [_, _, _], _ => rfl⟩
  have HA : Has K mg "is_arrow" sIsArrow ["value", "many"] f2 _ := ⟨fun_mk (st := sIsArrow) l2 c2 k2, PySem.W.mg_of X G a2, (fun_mk (st := sIsArrow) l2 c2 k2).binds (ps := ["value", "many"]) fun _ _ _ _ _ _ us hl => match us, hl with | [_, _], _ => rfl⟩
  have HW : Has K mg "need_web" sNeedWeb ["web"] f3 _ := ⟨fun_mk (st := sNeedWeb) l3 c3 k3, PySem.W.mg_of X G a3, (fun_mk (st := sNeedWeb) l3 c3 k3).binds (ps := ["web"]) fun _ _ _ _ _ _ us hl => match us, hl with | [_], _ => rfl⟩
  have HN : Has K mg "need_burning" sNeedBurning ["web", "burning"] f4 _ := ⟨fun_mk (st := sNeedBurning) l4 c4 k4, PySem.W.mg_of X G a4, (fun_mk (st := sNeedBurning) l4 c4 k4).binds (ps := ["web", "burning"]) fun _ _ _ _ _ _ us hl => match us, hl with | [_, _], _ => rfl⟩
  have HO : Has K mg "need_both" sNeedBoth ["web", "burning"] f5 _ := ⟨fun_mk (st := sNeedBoth) l5 c5 k5, PySem.W.mg_of X G a5, (fun_mk (st := sNeedBoth) l5 c5 k5).binds (ps := ["web", "burning"]) fun _ _ _ _ _ _ us hl => match us, hl with | [_, _], _ => rfl⟩
  have HNm : Has K mg "named" sNamed ["web", "burning", "order"] f6 _ := ⟨fun_mk (st := sNamed) l6 c6 k6, PySem.W.mg_of X G a6, (fun_mk (st := sNamed) l6 c6 k6).binds (ps := ["web", "burning", "order"]) fun _ _ _ _ _ _ us hl => match us, hl with | [_, _, _], _ => rfl⟩
  have HOr : Has K mg "need_order" sNeedOrder ["web", "order"] f7 _ := ⟨fun_mk (st := sNeedOrder) l7 c7 k7, PySem.W.mg_of X G a7, (fun_mk (st := sNeedOrder) l7 c7 k7).binds (ps := ["web", "order"]) fun _ _ _ _ _ _ us hl => match us, hl with | [_, _], _ => rfl⟩
  have HRn : Has K mg "renamed" sRenamed ["web", "burning", "order"] f8 _ := ⟨fun_mk (st := sRenamed) l8 c8 k8, PySem.W.mg_of X G a8, (fun_mk (st := sRenamed) l8 c8 k8).binds (ps := ["web", "burning", "order"]) fun _ _ _ _ _ _ us hl => match us, hl with | [_, _, _], _ => rfl⟩
  have HAl : Has K mg "all_orders" sAllOrders ["many"] f9 _ := ⟨fun_mk (st := sAllOrders) l9 c9 k9, PySem.W.mg_of X G a9, (fun_mk (st := sAllOrders) l9 c9 k9).binds (ps := ["many"]) fun _ _ _ _ _ _ us hl => match us, hl with | [_], _ => rfl⟩
  have HFw : Has K mg "need_few" sNeedFew ["web"] f10 _ := ⟨fun_mk (st := sNeedFew) l10 c10 k10, PySem.W.mg_of X G a10, (fun_mk (st := sNeedFew) l10 c10 k10).binds (ps := ["web"]) fun _ _ _ _ _ _ us hl => match us, hl with | [_], _ => rfl⟩
  have HRs : Has K mg "renamings" sRenamings ["web", "burning"] f11 _ := ⟨fun_mk (st := sRenamings) l11 c11 k11, PySem.W.mg_of X G a11, (fun_mk (st := sRenamings) l11 c11 k11).binds (ps := ["web", "burning"]) fun _ _ _ _ _ _ us hl => match us, hl with | [_, _], _ => rfl⟩
  have HLe : Has K mg "least_form" sLeastForm ["web", "burning"] f12 _ := ⟨fun_mk (st := sLeastForm) l12 c12 k12, PySem.W.mg_of X G a12, (fun_mk (st := sLeastForm) l12 c12 k12).binds (ps := ["web", "burning"]) fun _ _ _ _ _ _ us hl => match us, hl with | [_, _], _ => rfl⟩
  have HAr : Has K mg "are_alike" sAreAlike ["web", "burning", "other_web", "other_burning"] f13 _ := ⟨fun_mk (st := sAreAlike) l13 c13 k13, PySem.W.mg_of X G a13, (fun_mk (st := sAreAlike) l13 c13 k13).binds (ps := ["web", "burning", "other_web", "other_burning"]) fun _ _ _ _ _ _ us hl => match us, hl with | [_, _, _, _], _ => rfl⟩
  have HTk : Has K mg "_law_taken" sTaken ["_law_row", "_law_many"] f14 _ := ⟨fun_mk (st := sTaken) l14 c14 k14, PySem.W.mg_of X G a14, (fun_mk (st := sTaken) l14 c14 k14).binds (ps := ["_law_row", "_law_many"]) fun _ _ _ _ _ _ us hl => match us, hl with | [_, _], _ => rfl⟩
  have HPk : Has K mg "_law_pick" sPick ["_law_row", "_law_things"] f15 _ := ⟨fun_mk (st := sPick) l15 c15 k15, PySem.W.mg_of X G a15, (fun_mk (st := sPick) l15 c15 k15).binds (ps := ["_law_row", "_law_things"]) fun _ _ _ _ _ _ us hl => match us, hl with | [_, _], _ => rfl⟩
  have HWb : Has K mg "_law_web" sWeb ["_law_row", "_law_most"] f16 _ := ⟨fun_mk (st := sWeb) l16 c16 k16, PySem.W.mg_of X G a16, (fun_mk (st := sWeb) l16 c16 k16).binds (ps := ["_law_row", "_law_most"]) fun _ _ _ _ _ _ us hl => match us, hl with | [_, _], _ => rfl⟩
  have HBu : Has K mg "_law_burning" sBurning ["_law_row", "_law_many"] f17 _ := ⟨fun_mk (st := sBurning) l17 c17 k17, PySem.W.mg_of X G a17, (fun_mk (st := sBurning) l17 c17 k17).binds (ps := ["_law_row", "_law_many"]) fun _ _ _ _ _ _ us hl => match us, hl with | [_, _], _ => rfl⟩
  have HAk : Has K mg "_law_alike" sAlike ["_law_found", "_law_due"] f18 _ := ⟨fun_mk (st := sAlike) l18 c18 k18, PySem.W.mg_of X G a18, (fun_mk (st := sAlike) l18 c18 k18).binds (ps := ["_law_found", "_law_due"]) fun _ _ _ _ _ _ us hl => match us, hl with | [_, _], _ => rfl⟩
  have HLn : Has K mg "_law_named" sLNamed ["_law_web_here", "_law_burning_here", "_law_order"] f19 _ := ⟨fun_mk (st := sLNamed) l19 c19 k19, PySem.W.mg_of X G a19, (fun_mk (st := sLNamed) l19 c19 k19).binds (ps := ["_law_web_here", "_law_burning_here", "_law_order"]) fun _ _ _ _ _ _ us hl => match us, hl with | [_, _, _], _ => rfl⟩
  have T : Lw K mg f1 f2 f3 f4 f5 f6 f7 f8 f9 f10 f11 f12 f13 f14 f15 f16 f17 f18 f19 _ _ _ _ _ _ _ _ _ _ _ _ _ _ _ _ _ _ _ := ⟨⟨HI, HA, HW, HN, HO⟩, HNm, HOr, HRn, HAl, HFw, HRs, HLe, HAr, HTk, HPk, HWb, HBu, HAk, HLn⟩
  exact ⟨PySem.W.fnOf "law" "law" (defArgs sLaw) (defBody sLaw) (defScope sLaw) .none kV20 dc20 pm20 an20 cd20 ct20, fun s v => .of_eq rfl, fun base _ _ => ok_law (fun_mk (st := sLaw) l20 c20 k20) bl T⟩
end Kw

open PySem PySem.W PyProof.Rows in
set_option maxRecDepth 100000 in
set_option maxHeartbeats 0 in
theorem PySem.Challenge.cw_passlights_k37_whole_names_of_lamps_holds : PySem.Challenge.rw_passlights_k37_whole_names_of_lamps.Holds := by
  w_on; o_law; k_head; (case hw => w_witness2)
  k_fill
  refine L2.walk_of (l := PySem.Challenge.rw_passlights_k37_whole_names_of_lamps) (n := 63) (k := 6) (x := "_law_script") (CX := fun _ => L2.CX0) (sp := fun w => Kw.spLaw _) rfl (by decide) rfl ⟨rfl, by decide, by decide⟩ (fun w h Y => PySem.W.kIn_of Y) ?F (fun _ _ a ns hl _ hS => ⟨a, ns, rfl, hS, hl, fun _ => rfl⟩) (fun _ _ _ _ _ z => z)
  case F =>
    intro w mg fa h KX G hmg
    refine' Kw.all_mk KX G hmg ?a1 ?l1 ?c1 ?k1 ?a2 ?l2 ?c2 ?k2 ?a3 ?l3 ?c3 ?k3 ?a4 ?l4 ?c4 ?k4 ?a5 ?l5 ?c5 ?k5 ?a6 ?l6 ?c6 ?k6 ?a7 ?l7 ?c7 ?k7 ?a8 ?l8 ?c8 ?k8 ?a9 ?l9 ?c9 ?k9 ?a10 ?l10 ?c10 ?k10 ?a11 ?l11 ?c11 ?k11 ?a12 ?l12 ?c12 ?k12 ?a13 ?l13 ?c13 ?k13 ?a14 ?l14 ?c14 ?k14 ?a15 ?l15 ?c15 ?k15 ?a16 ?l16 ?c16 ?k16 ?a17 ?l17 ?c17 ?k17 ?a18 ?l18 ?c18 ?k18 ?a19 ?l19 ?c19 ?k19 ?a20 ?l20 ?c20 ?k20 ?z_isi ?z_int ?z_bool ?z_str ?z_tuple ?z_list ?z_len ?z_enum ?z_sorted ?z_range ?z_min ?z_set ?z_dict ?y9 ?y6
    (case a1 => k_is)
    (case l1 => k_is)
    (case c1 => k_is)
    (case k1 => k_is)
    (case a2 => k_is)
    (case l2 => k_is)
    (case c2 => k_is)
    (case k2 => k_is)
    (case a3 => k_is)
    (case l3 => k_is)
    (case c3 => k_is)
    (case k3 => k_is)
    (case a4 => k_is)
    (case l4 => k_is)
    (case c4 => k_is)
    (case k4 => k_is)
    (case a5 => k_is)
    (case l5 => k_is)
    (case c5 => k_is)
    (case k5 => k_is)
    (case a6 => k_is)
    (case l6 => k_is)
    (case c6 => k_is)
    (case k6 => k_is)
    (case a7 => k_is)
    (case l7 => k_is)
    (case c7 => k_is)
    (case k7 => k_is)
    (case a8 => k_is)
    (case l8 => k_is)
    (case c8 => k_is)
    (case k8 => k_is)
    (case a9 => k_is)
    (case l9 => k_is)
    (case c9 => k_is)
    (case k9 => k_is)
    (case a10 => k_is)
    (case l10 => k_is)
    (case c10 => k_is)
    (case k10 => k_is)
    (case a11 => k_is)
    (case l11 => k_is)
    (case c11 => k_is)
    (case k11 => k_is)
    (case a12 => k_is)
    (case l12 => k_is)
    (case c12 => k_is)
    (case k12 => k_is)
    (case a13 => k_is)
    (case l13 => k_is)
    (case c13 => k_is)
    (case k13 => k_is)
    (case a14 => k_is)
    (case l14 => k_is)
    (case c14 => k_is)
    (case k14 => k_is)
    (case a15 => k_is)
    (case l15 => k_is)
    (case c15 => k_is)
    (case k15 => k_is)
    (case a16 => k_is)
    (case l16 => k_is)
    (case c16 => k_is)
    (case k16 => k_is)
    (case a17 => k_is)
    (case l17 => k_is)
    (case c17 => k_is)
    (case k17 => k_is)
    (case a18 => k_is)
    (case l18 => k_is)
    (case c18 => k_is)
    (case k18 => k_is)
    (case a19 => k_is)
    (case l19 => k_is)
    (case c19 => k_is)
    (case k19 => k_is)
    (case a20 => k_is)
    (case l20 => k_is)
    (case c20 => k_is)
    (case k20 => k_is)
    (case z_isi => k_is)
    (case z_int => k_is)
    (case z_bool => k_is)
    (case z_str => k_is)
    (case z_tuple => k_is)
    (case z_list => k_is)
    (case z_len => k_is)
    (case z_enum => k_is)
    (case z_sorted => k_is)
    (case z_range => k_is)
    (case z_min => k_is)
    (case z_set => k_is)
    (case z_dict => k_is)
    (case y9 => k_is)
    (case y6 => k_is)
