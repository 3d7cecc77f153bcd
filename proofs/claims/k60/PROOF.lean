import PyProof.Rows.All
import Wide.All
import OpenK.AllK
import Wide.FinOn
import HandS.ForMost
import HandS.ForExc
import HandS.Evl
import HandS.SetKeys
import HandS.DictTup
import HandS.Conv
import HandS.TupMul
import HandS.TupAny
import HandS.Zip
import HandS.IsInst
import HandS.SortRule
import HandS.SortInts
import HandS.TupSets
import HandS.SetFor
import KE.KDictPairs
import HandS.Wide
import HandS.Walk
import HandS.Lambda
import HandS.Nested
import HandS.EndTab
import KE.GoesNew
import KE.SortData
import PySem.Challenge.RW_hourcards_k60_whole_strangers_led
set_option Elab.async false
set_option maxRecDepth 100000
set_option maxHeartbeats 8000000
set_option linter.all false
/-! Z0a: data of tuples in the abstract heap; what evaluates to data. -/
namespace Z
open PySem L2 Evl

/-! ### data -/
mutual
def Dt (H : Hp) : PyData → V → Prop
  | .none, v => v = .non
  | .bool b, v => v = .bl b
  | .int i, v => v = .int i
  | .str x, v => v = .str x
  | .tuple ds, v => ∃ a xs, v = .ref a ∧ Rd H a (.tup xs) ∧ DtA H ds xs
  | .list _, _ => False
  | .dict _, _ => False
def DtA (H : Hp) : List PyData → List V → Prop
  | [], xs => xs = []
  | d :: ds, xs => ∃ v r, xs = v :: r ∧ Dt H d v ∧ DtA H ds r
end

/-- the tuples stay -/
def Tk (H H' : Hp) : Prop := ∀ a xs, Rd H a (.tup xs) → Rd H' a (.tup xs)
theorem Tk.refl (H : Hp) : Tk H H := fun _ _ h => h
theorem Tk.trans {H H1 H2 : Hp} (a : Tk H H1) (b : Tk H1 H2) : Tk H H2 := fun c o h => b c o (a c o h)
theorem Ex.tk {H H' : Hp} (e : Ex H H') : Tk H H' := fun a _ h => ex_rd e h
theorem rd_upd {H : Hp} {l a : Addr} {o u : HO} (h : Rd H a u) (hne : a ≠ l) : Rd (upd H l o) a u := by
  rcases h with h | ⟨ob, h⟩
  · exact .inl (by rw [upd_ne hne]; exact h)
  · exact .inr ⟨ob, by rw [upd_ne hne]; exact h⟩
theorem rd_ne {H : Hp} {l a : Addr} {u o : HO} (h : Rd H a u) (hl : H l = some o) (h1 : u ≠ o) (h2 : ∀ ob, HO.frz ob u ≠ o) : a ≠ l := by
  rcases h with h | ⟨ob, h⟩
  · exact ne_of h hl h1
  · exact ne_of h hl (h2 ob)
theorem Tk.mut {H : Hp} {l : Addr} {xs : List V} {o : HO} (h : H l = some (.lst xs)) : Tk H (upd H l o) := fun a ys q =>
  rd_upd q (rd_ne q h (fun z => by cases z) (fun _ z => by cases z))
mutual
theorem dt_tk {H H' : Hp} (e : Tk H H') : ∀ (d : PyData) (v : V), Dt H d v → Dt H' d v
  | .none, _, h => h
  | .bool _, _, h => h
  | .int _, _, h => h
  | .str _, _, h => h
  | .tuple ds, _, ⟨a, xs, ev, ha, hd⟩ => ⟨a, xs, ev, e a xs ha, dta_tk e ds xs hd⟩
  | .list _, _, h => h
  | .dict _, _, h => h
theorem dta_tk {H H' : Hp} (e : Tk H H') : ∀ (ds : List PyData) (xs : List V), DtA H ds xs → DtA H' ds xs
  | [], _, h => h
  | d :: ds, _, ⟨v, r, ex, hv, hr⟩ => ⟨v, r, ex, dt_tk e d v hv, dta_tk e ds r hr⟩
end
theorem Dt.tk {H H' : Hp} {d : PyData} {v : V} (h : Dt H d v) (e : Tk H H') : Dt H' d v := dt_tk e d v h
theorem DtA.tk {H H' : Hp} {d : List PyData} {v : List V} (h : DtA H d v) (e : Tk H H') : DtA H' d v := dta_tk e d v h
theorem Dt.ex {H H' : Hp} {d : PyData} {v : V} (h : Dt H d v) (e : Ex H H') : Dt H' d v := h.tk (Ex.tk e)
theorem DtA.ex {H H' : Hp} {d : List PyData} {v : List V} (h : DtA H d v) (e : Ex H H') : DtA H' d v := h.tk (Ex.tk e)
theorem DtA.len {H : Hp} : ∀ {ds : List PyData} {xs : List V}, DtA H ds xs → xs.length = ds.length
  | [], _, h => by
    rw [show _ = [] from h] <;> rfl
  | d :: ds, _, ⟨v, r, ex, _, hr⟩ => by
    rw [ex, List.length_cons, List.length_cons, DtA.len hr]
theorem DtA.get {H : Hp} : ∀ {ds : List PyData} {xs : List V} {i : Nat} {d : PyData}, DtA H ds xs → ds[i]? = some d → ∃ v, xs[i]? = some v ∧ Dt H d v
  | [], _, _, _, _, e => by simp at e
  | d :: ds, _, 0, d', ⟨v, r, ex, hv, hr⟩, e => by
    simp at e
    subst e
    exact ⟨v, by rw [ex] <;> rfl, hv⟩
  | d :: ds, _, i + 1, d', ⟨v, r, ex, hv, hr⟩, e => by
    obtain ⟨u, h1, h2⟩ := DtA.get (i := i) (d := d') hr (by simpa using e)
    exact ⟨u, by rw [ex]; simpa using h1, h2⟩
theorem DtA.get' {H : Hp} : ∀ {ds : List PyData} {xs : List V} {i : Nat} {v : V}, DtA H ds xs → xs[i]? = some v → ∃ d, ds[i]? = some d ∧ Dt H d v
  | [], _, _, _, h, e => by
    rw [show _ = [] from h] at e
    simp at e
  | d :: ds, _, 0, v', ⟨v, r, ex, hv, hr⟩, e => by
    rw [ex] at e
    simp at e
    subst e
    exact ⟨d, rfl, hv⟩
  | d :: ds, _, i + 1, v', ⟨v, r, ex, hv, hr⟩, e => by
    rw [ex] at e
    obtain ⟨u, h1, h2⟩ := DtA.get' (i := i) (v := v') hr (by simpa using e)
    exact ⟨u, by simpa using h1, h2⟩
theorem DtA.app {H : Hp} : ∀ {ds es : List PyData} {xs ys : List V}, DtA H ds xs → DtA H es ys → DtA H (ds ++ es) (xs ++ ys)
  | [], _, _, _, h, q => by
    rw [show _ = [] from h]
    exact q
  | d :: ds, es, _, ys, ⟨v, r, ex, hv, hr⟩, q => by
    rw [ex]
    exact ⟨v, r ++ ys, rfl, hv, DtA.app hr q⟩
theorem DtA.one {H : Hp} {d : PyData} {v : V} (h : Dt H d v) : DtA H [d] [v] := ⟨v, [], rfl, h, rfl⟩
theorem DtA.snoc {H : Hp} {ds : List PyData} {xs : List V} {d : PyData} {v : V} (h : DtA H ds xs) (q : Dt H d v) : DtA H (ds ++ [d]) (xs ++ [v]) := h.app (.one q)
theorem DtA.take {H : Hp} : ∀ {ds : List PyData} {xs : List V} (n : Nat), DtA H ds xs → DtA H (ds.take n) (xs.take n)
  | _, _, 0, _ => by
    rw [List.take_zero, List.take_zero]
    exact (rfl : ([] : List V) = [])
  | [], _, n + 1, h => by
    rw [show _ = [] from h]
    exact (rfl : ([] : List V) = [])
  | d :: ds, _, n + 1, ⟨v, r, ex, hv, hr⟩ => by
    rw [ex]
    exact ⟨v, r.take n, rfl, hv, DtA.take n hr⟩
theorem DtA.drop {H : Hp} : ∀ {ds : List PyData} {xs : List V} (n : Nat), DtA H ds xs → DtA H (ds.drop n) (xs.drop n)
  | _, _, 0, h => h
  | [], _, n + 1, h => by
    rw [show _ = [] from h]
    exact (rfl : ([] : List V) = [])
  | d :: ds, _, n + 1, ⟨v, r, ex, hv, hr⟩ => by
    rw [ex]
    exact DtA.drop n hr
theorem dta_ints {H : Hp} : ∀ (ns : List Int), DtA H (ns.map PyData.int) (ns.map V.int)
  | [] => rfl
  | n :: ns => ⟨.int n, ns.map V.int, rfl, rfl, dta_ints ns⟩
theorem DtA.ints {H : Hp} : ∀ {ns : List Int} {xs : List V}, DtA H (ns.map PyData.int) xs → xs = ns.map V.int
  | [], _, h => h
  | n :: ns, _, ⟨v, r, ex, hv, hr⟩ => by
    have e1 : v = .int n := hv
    rw [ex, e1, DtA.ints hr] <;> rfl
theorem dt_map {α : Type} {H : Hp} {f : α → PyData} {g : α → V} : ∀ {l : List α}, (∀ x ∈ l, Dt H (f x) (g x)) → DtA H (l.map f) (l.map g)
  | [], _ => rfl
  | x :: l, h => ⟨g x, l.map g, rfl, h x List.mem_cons_self, dt_map fun y hy => h y (List.mem_cons_of_mem _ hy)⟩
mutual
theorem dt_dp {K : PySem.W.Frag} {H : Hp} : ∀ (d : PyData) (v : V), Dt H d v → Dp K H v d
  | .none, _, h => by rw [show _ = V.non from h]; exact .non
  | .bool b, _, h => by rw [show _ = V.bl b from h]; exact .bl b
  | .int i, _, h => by rw [show _ = V.int i from h]; exact .int i
  | .str x, _, h => by rw [show _ = V.str x from h]; exact .str x
  | .tuple ds, _, ⟨a, xs, ev, ha, hd⟩ => by rw [ev]; exact .tup (.inl ha) (dta_dp ds xs hd)
  | .list _, _, h => h.elim
  | .dict _, _, h => h.elim
theorem dta_dp {K : PySem.W.Frag} {H : Hp} : ∀ (ds : List PyData) (xs : List V), DtA H ds xs → DpAll K H xs ds
  | [], _, h => by rw [show _ = [] from h]; exact .nil
  | d :: ds, _, ⟨v, r, ex, hv, hr⟩ => by rw [ex]; exact .cons (dt_dp d v hv) (dta_dp ds r hr)
end
theorem DtA.dp {K : PySem.W.Frag} {H : Hp} {ds : List PyData} {xs : List V} {a : Addr} (h : DtA H ds xs) (ha : H a = some (.lst xs)) : Dp K H (.ref a) (.list ds) := .lst (SqL.of ha) (dta_dp ds xs h)
theorem Dt.tup {H : Hp} {ds : List PyData} {v : V} (h : Dt H (.tuple ds) v) : ∃ a xs, v = .ref a ∧ Rd H a (.tup xs) ∧ DtA H ds xs := h
theorem dt_tup {H : Hp} {ds : List PyData} {a : Addr} {xs : List V} (h : H a = some (.tup xs)) (q : DtA H ds xs) : Dt H (.tuple ds) (.ref a) := ⟨a, xs, rfl, .inl h, q⟩
theorem dt_int {H : Hp} {i : Int} : Dt H (.int i) (.int i) := rfl
theorem dt_non {H : Hp} : Dt H .none .non := rfl
theorem Dt.int {H : Hp} {i : Int} {v : V} (h : Dt H (.int i) v) : v = .int i := h
end Z
/-! Zr1: a tuple of one times 0, 1, more. -/
namespace Z
open PySem PySem.Spec PyProof.Rows L2

theorem mul_at1 (l : Addr) (items : Array Value) (n : Nat) (dd : Option Addr) (sl : Array (Option Value)) (u : Tok) :
    Meets (Builtin.«tuple.__mul__» ⟨[.ref l, .int 1 u], []⟩) (fun _ R s => s.heap.get? l = some { cls := .type "tuple", dict := dd, data := .seq items n, slots := sl } ∧
      R (.ok (.ret (Value.ref l))) s) :=
  .of_wp fun prog w A R s h => by
    obtain ⟨hp, g, d, tk, os⟩ := s
    obtain ⟨hl, h⟩ := h
    have f1 := AutoSeq1.idx_int
    have c1 : (items.isEmpty || (1 : Int) == 1) = true := by simp
    wp_walk using wpAny_loadPart' hl
    repeat (first
      | (refine wpAny_ite_false (decide_eq_false (by decide)) ?_; wp_walk using wpAny_loadPart' hl)
      | (refine wpAny_ite_true (decide_eq_true (by rw [c1])) ?_; wp_walk using wpAny_loadPart' hl))
    exact ⟨_, rfl, h⟩
theorem mul_at0 (l : Addr) (x : Value) (n : Nat) (dd : Option Addr) (sl : Array (Option Value)) (u : Tok) :
    Meets (Builtin.«tuple.__mul__» ⟨[.ref l, .int 0 u], []⟩) (fun _ R s => s.heap.get? l = some { cls := .type "tuple", dict := dd, data := .seq #[x] n, slots := sl } ∧
      R (.ok (.ret (Value.ref s.heap.objs.size))) { s with heap := s.heap.push { cls := Value.type "tuple", data := Data.seq #[] }, toks := s.toks }) :=
  .of_wp fun prog w A R s h => by
    obtain ⟨hp, g, d, tk, os⟩ := s
    obtain ⟨hl, h⟩ := h
    have f1 := AutoSeq1.idx_int
    wp_walk using wpAny_loadPart' hl
    repeat (first
      | (refine wpAny_ite_false (decide_eq_false (by decide)) ?_; wp_walk using wpAny_loadPart' hl)
      | (refine wpAny_ite_false (decide_eq_false (by simp)) ?_; wp_walk using wpAny_loadPart' hl)
      | (refine wpAny_ite_true (decide_eq_true (by simp)) ?_; wp_walk using wpAny_loadPart' hl))
    exact ⟨_, rfl, h⟩
/-- (x,) * k, 0 ≤ k -/
def rRep1 (K : PySem.W.Frag) : R2 := fun x y H Q => ∃ l k e, x = .ref l ∧ y = .int k ∧ SqT K H l [e] ∧ 0 ≤ k ∧ k ≤ 1000 ∧
  (k = 1 → Q (.ref l) H) ∧ (k ≠ 1 → ∀ p, H p = none → Q (.ref p) (upd H p (.tup (List.replicate k.toNat e))))
theorem flat_one (e : V) : ∀ n : Nat, (List.replicate n [e]).flatten = List.replicate n e
  | 0 => rfl
  | n + 1 => by
    rw [List.replicate_succ, List.replicate_succ, List.flatten_cons, flat_one e n] <;> rfl
section
variable {X : Cx}
theorem op_rep1 : OpR X (binaryOp .Mult) (rRep1 X.K) := by
  intro pins s σ H x y v u Q I rx ry h
  obtain ⟨l, k, e, rfl, rfl, hT, h0, h1, q1, q2⟩ := h
  by_cases hk : 2 ≤ k
  · refine op_repT pins s σ H _ _ v u Q I rx ry ⟨l, k, [e], rfl, rfl, hT, by simp, hk, h1, by simp, fun p hp => ?_⟩
    rw [flat_one]
    exact q2 (by omega) p hp
  · have tT := hT
    cases rx
    obtain ⟨t, rfl⟩ := ry
    obtain ⟨its, r, ⟨⟨cls, dd, data, sl⟩, ho, hc, n, hd⟩, hs⟩ := I.tuple hT
    simp only at hc hd
    subst hc hd
    obtain ⟨z, rfl, rz⟩ := Vals.one r
    have hk2 : k = 0 ∨ k = 1 := by omega
    rcases hk2 with rfl | rfl
    · refine wpAny_binaryOp_repeat_ref (T := "tuple") (U := "int") (by decide) ⟨_, ho, rfl⟩ (fun s' => typeIs_int s' 0 t) noFill_tuple_mul F.fills_int_mul F.slot_int_rmul repeat_tuple F.slot_int_index.lookup
        (call_meets F.slot_int_rmul (typeIs_int s 0 t) F.entry_int_rmul (F.args_int_rmul_2 _ _) (int_rmul_tuple 0 t l _ n dd sl)
          ⟨ho, rfl, ⟨_, ho, rfl⟩, call_meets F.slot_tuple_mul ⟨_, ho, rfl⟩ F.entry_tuple_mul (F.args_tuple_mul_2 _ _) (mul_at0 l z n dd sl t) ⟨ho, ?_⟩⟩)
      refine ⟨.ref s.heap.objs.size, _, I.laid (t' := s.toks) (o := .tup []) (fun b ob q => Heap.get?_push_of_some _ q) (Nat.le_refl _) ?_, rfl, q2 (by decide) _ (I.hok.fresh (Nat.le_refl _))⟩
      exact ⟨Nat.zero_le _, [], .nil, IsTup.new _ _⟩
    · refine wpAny_binaryOp_repeat_ref (T := "tuple") (U := "int") (by decide) ⟨_, ho, rfl⟩ (fun s' => typeIs_int s' 1 t) noFill_tuple_mul F.fills_int_mul F.slot_int_rmul repeat_tuple F.slot_int_index.lookup
        (call_meets F.slot_int_rmul (typeIs_int s 1 t) F.entry_int_rmul (F.args_int_rmul_2 _ _) (int_rmul_tuple 1 t l _ n dd sl)
          ⟨ho, rfl, ⟨_, ho, rfl⟩, call_meets F.slot_tuple_mul ⟨_, ho, rfl⟩ F.entry_tuple_mul (F.args_tuple_mul_2 _ _) (mul_at1 l _ n dd sl t) ⟨ho, ?_⟩⟩)
      exact ⟨.ref l, H, I, rfl, q1 rfl⟩
end
end Z
/-! Zr2: enumerate of a list or a tuple, zip of any two of these, over GoesN. -/
namespace Z
open PySem PySem.Spec PyProof.Rows L2

/-- a tuple (true), a list (false) -/
def Sq (f : Bool) (K : PySem.W.Frag) (H : Hp) (a : Addr) (xs : List V) : Prop := match f with
  | true => SqT K H a xs
  | false => SqL K H a xs
def ItI (f : Bool) (h : Heap) (it a : Addr) (i : Nat) : Prop := match f with
  | true => h.IsTupleIter it a i
  | false => h.IsListIter it a i
def IsS (f : Bool) (h : Heap) (a : Addr) (items : Array Value) : Prop := match f with
  | true => h.IsTuple a items
  | false => h.IsList a items
def itO (f : Bool) (a : Addr) : Obj := match f with
  | true => { cls := .type "tuple_iterator", data := .fields #[.ref a, .int 0 0] }
  | false => { cls := .type "list_iterator", data := .fields #[.ref a, .int 0 0] }
theorem itI_at {f : Bool} {h h' : Heap} {it a : Addr} {i : Nat} (x : ItI f h it a i) (e : ∀ o, h.get? it = some o → h'.get? it = some o) : ItI f h' it a i := by
  cases f with
  | true => exact Heap.IsTupleIter.at x e
  | false => exact Heap.IsListIter.at x e
theorem itI_obj {f : Bool} {h : Heap} {it a : Addr} {i : Nat} (x : ItI f h it a i) : ∃ o, h.get? it = some o ∧ ∀ v, o.data ≠ .cell v := by
  cases f with
  | true =>
    obtain ⟨o, e, _, d⟩ := x
    exact ⟨o, e, fun v z => by rw [d] at z; cases z⟩
  | false =>
    obtain ⟨o, e, _, d⟩ := x
    exact ⟨o, e, fun v z => by rw [d] at z; cases z⟩
theorem itI_new {f : Bool} {h : Heap} {it a : Addr} (e : h.get? it = some (itO f a)) : ItI f h it a 0 := by
  cases f with
  | true => exact ⟨_, e, rfl, rfl⟩
  | false => exact ⟨_, e, rfl, rfl⟩
theorem draws_f {prog : Program} {w : World} {A : Around} (f : Bool) (hh : A.handled = none) (it l : Addr) (hne : l ≠ it) (items : Array Value) :
    Draws prog w A it [it, l] items.size (fun i v => items[i]? = some v) (fun i h => ItI f h it l i ∧ IsS f h l items) := by
  cases f with
  | true => exact Draws.tuple hh it l hne items
  | false => exact Draws.list hh it l hne items
theorem begins_f (f : Bool) (l : Addr) (items : Array Value) : Begins (.ref l) (itO f l) fun h => IsS f h l items := by
  cases f with
  | true => exact begins_tuple l items
  | false => exact begins_list l items
section
variable {X : Cx} {pins : List (Addr × Obj)} {σ : L2.St} {H : Hp} {s : Shared}
theorem sq_get {f : Bool} {a : Addr} {xs : List V} (I : L2.Inv X pins σ H s) (h : Sq f X.K H a xs) : ∃ its : List Value, Vals xs its ∧ IsS f s.heap a its.toArray ∧ a < s.heap.objs.size ∧ xs.length ≤ sizeLine := by
  cases f with
  | true =>
    obtain ⟨its, r, p, z⟩ := I.tuple h
    exact ⟨its, r, p, by obtain ⟨o, e, _⟩ := p; exact Heap.lt_size e, z⟩
  | false =>
    obtain ⟨its, r, p, z⟩ := I.list h
    exact ⟨its, r, p.isList, p.lt, z⟩
theorem sq_inj {f : Bool} {a : Addr} {xs ys : List V} (I : L2.Inv X pins σ H s) (h : Sq f X.K H a xs) (h' : Sq f X.K H a ys) : xs = ys := by
  cases f with
  | true => exact I.tuple_inj h h'
  | false => exact I.list_inj h h'
/-- one turn of an iterator of pairs: the pair is new and known from then on -/
theorem item_pair {tg : Expr} {it : Addr} {fp wr fq : List Addr} {n i : Nat} {P1 P2 : Nat → Value → Prop} {Sn : Nat → Heap → Prop} {x y : V} {E : Value → Shared → Prop}
    (W : GoesN X.prog X.w X.A tg it fp wr n (fun i h₀ v h => ∃ T u1 u2, v = .ref T ∧ h₀.objs.size ≤ T ∧ P1 i u1 ∧ P2 i u2 ∧ h.IsTuple T #[u1, u2]) Sn)
    (I : L2.Inv X pins σ H s) (hw : ∀ b ∈ wr, b ∈ fq) (hf : ∀ b ∈ fq, FpOk X pins H b) (hi : i < n) (st : Sn i s.heap) (h1 : ∀ u, P1 i u → RelV x u) (h2 : ∀ u, P2 i u → RelV y u) :
    wpAny (model X.prog X.w) X.A (pyNext (.ref it)) (fun r s1 => ∃ u, r = some u ∧
      wpAny (model X.prog X.w) X.A (letOwnedTupleGo tg (.ref it) u) (fun _ s2 => ∃ T, L2.Inv X pins σ (upd H T (.tup [x, y])) s2 ∧ u = .ref T ∧ H T = none ∧ s.heap.objs.size ≤ T ∧ Sn (i + 1) s2.heap) E s1) E s := by
  refine wpAny_mono (W.goes i s (fun u s2 => ∃ T, L2.Inv X pins σ (upd H T (.tup [x, y])) s2 ∧ u = .ref T ∧ H T = none ∧ s.heap.objs.size ≤ T ∧ Sn (i + 1) s2.heap) E hi st fun v h' tk hY st' hk _ => ?_) (fun _ _ q => q) fun _ _ q => q
  obtain ⟨T, u1, u2, rfl, hT, p1, p2, ht⟩ := hY
  refine ⟨T, ?_, rfl, I.hok.fresh hT, hT, st'⟩
  refine I.turnedNew (ch := wr) (fun b o hb e => hk b o hb e) (fun b hb => hf b (hw b hb)) hT ?_
  exact ⟨by show 2 ≤ sizeLine; decide, [u1, u2], .cons (h1 _ p1) (.cons (h2 _ p2) .nil), ht⟩
theorem item_stop {tg : Expr} {it : Addr} {fp wr fq : List Addr} {n : Nat} {Y : Nat → Heap → Value → Heap → Prop} {Sn : Nat → Heap → Prop} {E : Value → Shared → Prop}
    (W : GoesN X.prog X.w X.A tg it fp wr n Y Sn) (I : L2.Inv X pins σ H s) (hw : ∀ b ∈ wr, b ∈ fq) (hf : ∀ b ∈ fq, FpOk X pins H b) (st : Sn n s.heap) :
    wpAny (model X.prog X.w) X.A (pyNext (.ref it)) (fun r s1 => r = none ∧ L2.Inv X pins σ H s1) E s :=
  W.stops s (fun s1 => Inv X pins σ H s1) E st fun h' tk hk _ => I.turnedL (ch := wr) hk fun b hb => hf b (hw b hb)
end

/-! ### enumerate -/
theorem meets_enum1 {v : Value} {o : Obj} {Hq : Heap → Prop} (B : Begins v o Hq) :
    Meets (Builtin.«enumerate.__new__» ⟨[.type "enumerate", v], []⟩) (fun _ R s => Hq s.heap ∧
      R (.ok (.ret (.ref (s.heap.push o).objs.size))) { s with heap := (s.heap.push o).push { cls := .type "enumerate", data := .fields #[.none, .bool false, .ref s.heap.objs.size, rawInt 0, .none, .none] } }) :=
  .of_wp fun prog w A R s h => by
    obtain ⟨hp, g, d, tk, os⟩ := s
    obtain ⟨h1, h⟩ := h
    have hsub := sub_enumerate
    have q1 : ∀ {A' : Around} {E : Value → Shared → Prop} {Q : Value → Shared → Prop}, Q (.ref hp.objs.size) ⟨hp.push o, g, d, tk, os⟩ → wpAny (model prog w) A' (pyIter v) Q E ⟨hp, g, d, tk, os⟩ :=
      fun q => B.iter _ _ _ _ _ _ h1 q
    wp_walk using q1
    refine wpAny_stack_any fun st => wpAny_pure ?_
    split
    · rename_i c _ _ _ _ _
      cases (c == Value.type "enumerate") <;> (wp_walk using q1; exact ⟨_, rfl, h⟩)
    · wp_walk using q1
      exact ⟨_, rfl, h⟩
theorem enum1_begins {prog : Program} {w : World} {A : Around} {E : Value → Shared → Prop} {s : Shared} {v : Value} {o : Obj} {Hq : Heap → Prop} {Q : Value → Shared → Prop} (B : Begins v o Hq) (h1 : Hq s.heap)
    (h : ∀ h', IsEnum h' (s.heap.objs.size + 1) s.heap.objs.size 0 .none → h'.get? s.heap.objs.size = some o →
      (∀ b o, s.heap.get? b = some o → h'.get? b = some o) → Q (.ref (s.heap.objs.size + 1)) { s with heap := h' }) :
    wpAny (model prog w) A (call (.type "enumerate") [v]) Q E s := by
  refine callType_new F.called_enumerate (by decide) (F.typeCall_enumerate_1 _) (F.newCall_enumerate_1 _) (fun obj => F.args_object_init_2 obj _) F.entry_enumerate_new
    (meets_enum1 B) ⟨h1, ?_⟩
  have hz : (s.heap.push o).objs.size = s.heap.objs.size + 1 := Heap.size_push ..
  have he := Heap.get?_push_size (s.heap.push o) (o := { cls := .type "enumerate", data := .fields #[.none, .bool false, .ref s.heap.objs.size, rawInt 0, .none, .none] }) rfl
  rw [hz] at he
  show _ ∧ _
  rw [hz]
  exact ⟨⟨_, he, rfl⟩, h _ he (Heap.get?_push_of_some _ (Heap.get?_push_size _ B.free)) fun b o x => Heap.get?_push_of_some _ (Heap.get?_push_of_some _ x)⟩
def Ief (f : Bool) (K : PySem.W.Frag) (a : Addr) : It :=
  ⟨fun i H => ∃ xs x, Sq f K H a xs ∧ xs[i]? = some x,
    fun i H v H' => ∃ T x, v = .ref T ∧ H T = none ∧ H' = upd H T (.tup [.int (i : Nat), x]) ∧ ∀ xs, Sq f K H a xs → xs[i]? = some x,
    fun i H => ∃ xs, Sq f K H a xs ∧ xs.length = i⟩
theorem turn_ef {P : Program} {w : World} {K : PySem.W.Frag} {elts : List Expr} {kk : Nat} {tpos : Pos} (f : Bool) (a e it : Addr) (hei : e ≠ it) (hae : a ≠ e) (hai : a ≠ it) :
    Turn P w K (.Tuple elts kk tpos) (Ief f K a) [e, it] e (fun i h => (∃ old, IsEnum h e it (0 + (i : Int)) old) ∧ ItI f h it a i) where
  mem := by simp
  obj := fun i h st b hb => by
    obtain ⟨⟨old, he⟩, hi⟩ := st
    have e' : b = e ∨ b = it := by simpa using hb
    rcases e' with z | z
    · rw [z]
      exact ⟨_, he, fun v q => nomatch q⟩
    · rw [z]
      exact itI_obj hi
  keep := fun i h h' st k => by
    obtain ⟨⟨old, he⟩, hi⟩ := st
    exact ⟨⟨old, k e (by simp) _ he⟩, itI_at hi fun o q => k it (by simp) o q⟩
  item := by
    intro X hP hw hK hc i pins s σ H E I hf st hg
    subst hP hw hK
    obtain ⟨xs, x, hq, hx⟩ := hg
    obtain ⟨its, rv, p, hlt, hz⟩ := sq_get I hq
    obtain ⟨u, hu, ru⟩ := rv.get hx
    have W := GoesN.enumFrom (elts := elts) (x1 := kk) (pos := tpos) 0 (draws_f (prog := X.prog) (w := X.w) (A := X.A.in1) f (I.ok.hd hc) it a hai its.toArray) e hei (by simp [hei, Ne.symm hae]) (by simp)
    have hlt2 : i < its.toArray.size := by
      have := (List.getElem?_eq_some_iff.mp hu).1
      simpa using this
    have W2 := W.mono (Y' := fun i h₀ v h => ∃ T u1 u2, v = .ref T ∧ h₀.objs.size ≤ T ∧ (∃ t, u1 = .int (0 + (i : Int)) t) ∧ its.toArray[i]? = some u2 ∧ h.IsTuple T #[u1, u2]) fun j h₀ v h _ ⟨T, t, x', ev, hn, hx', hT⟩ => ⟨T, _, x', ev, hn, ⟨t, rfl⟩, hx', hT⟩
    refine wpAny_mono (item_pair (fq := [e, it]) (x := .int (i : Nat)) (y := x) W2 I (fun b hb => hb) hf hlt2 ⟨st.1, st.2, p⟩ (fun z ⟨t, ez⟩ => ⟨t, by rw [ez, Int.zero_add]⟩) (fun z ez => ?_)) (fun r s1 hr => ?_) fun _ _ q => q
    · have e1 : u = z := by
        have : its[i]? = some z := by simpa using ez
        rw [hu] at this
        exact Option.some.inj this
      rw [← e1]
      exact ru
    · obtain ⟨v, rfl, hv⟩ := hr
      refine ⟨v, rfl, wpAny_mono hv (fun _ s2 ⟨T, I2, ev, hT, hge, st2⟩ => ?_) fun _ _ q => q⟩
      refine ⟨.ref T, _, I2, by rw [ev] <;> rfl, ⟨T, x, rfl, hT, rfl, fun ys hy => by rw [sq_inj I hy hq]; exact hx⟩, ⟨st2.1, st2.2.1⟩, fun b hb => ?_⟩
      have hb' : b < s.heap.objs.size := by
        obtain ⟨⟨old, he⟩, hi⟩ := st
        have e' : b = e ∨ b = it := by simpa using hb
        rcases e' with z | z
        · rw [z]; exact Heap.lt_size he
        · rw [z]; obtain ⟨o, q, _⟩ := itI_obj hi; exact Heap.lt_size q
      rw [upd_ne (Nat.ne_of_lt (Nat.lt_of_lt_of_le hb' hge))]
      exact (hf b hb).1
  done := by
    intro X hP hw hK hc i pins s σ H E I hf st hg
    subst hP hw hK
    obtain ⟨xs, hq, hx⟩ := hg
    obtain ⟨its, rv, p, hlt, hz⟩ := sq_get I hq
    have W := GoesN.enumFrom (elts := elts) (x1 := kk) (pos := tpos) 0 (draws_f (prog := X.prog) (w := X.w) (A := X.A.in1) f (I.ok.hd hc) it a hai its.toArray) e hei (by simp [hei, Ne.symm hae]) (by simp)
    have hn : its.toArray.size = i := by
      have := rv.length
      simp
      omega
    refine item_stop (fq := [e, it]) W I (fun b hb => hb) hf ?_
    rw [hn]
    exact ⟨st.1, st.2, p⟩
  self := fun A i s Q E st h => let ⟨⟨_, he⟩, _⟩ := st; wpAny_pyIter_enum he h
def iEf (f : Bool) (K : PySem.W.Frag) (ta : TA) : TI := fun σ H R => ta σ H fun vs H1 => ∃ a xs, vs = [.ref a] ∧ Sq f K H1 a xs ∧ R (Ief f K a) H1
theorem pi_ef {X : Cx} {e : Expr} {ta : TA} {p pos tpos : Pos} {elts : List Expr} {kk : Nat} (f : Bool) (hg : Gl X "enumerate") (hm : X.mg "enumerate" = none) (ha : PA X [e] ta) (hs : starEach [e] X.env = [(false, eval e X.env)] := by rfl) :
    PI X (.Tuple elts kk tpos) (.Call (.Name "enumerate" p) [e] [] pos) (iEf f X.K ta) := by
  refine ⟨fun pins s σ H R I h => ?_⟩
  refine Call_ (ld_blt I hg hm boot_enumerate (PyProof.Rows.callWith_type1 (thn (ha.run pos pins s σ H _ I h) fun us s1 ⟨vs, H1, I1, r1, q1⟩ => ?_) hs rfl))
  obtain ⟨a, xs, ex, hq, q⟩ := q1
  subst ex
  obtain ⟨u, rfl, r⟩ := Vals.one r1
  cases r
  obtain ⟨its, rv, p', hlt, hz⟩ := sq_get I1 hq
  refine enum1_begins (begins_f f a its.toArray) p' fun h' he hit hk => wpAny_pyIter_enum he ?_
  have I2 : L2.Inv X pins σ H1 { s1 with heap := h' } := I1.kept (t' := s1.toks) hk
  refine ⟨s1.heap.objs.size + 1, [s1.heap.objs.size + 1, s1.heap.objs.size], _, _, H1, rfl, I2, turn_ef f a (s1.heap.objs.size + 1) s1.heap.objs.size (Nat.succ_ne_self _) (Nat.ne_of_lt (Nat.lt_succ_of_lt hlt)) (Nat.ne_of_lt hlt), ⟨⟨.none, he⟩, itI_new hit⟩, fun b hb => ?_, q⟩
  have hle : s1.heap.objs.size ≤ b := by
    have e' : b = s1.heap.objs.size + 1 ∨ b = s1.heap.objs.size := by simpa using hb
    rcases e' with z | z
    · rw [z]; exact Nat.le_succ _
    · rw [z]; exact Nat.le_refl _
  exact I1.fpOk hle (I1.hok.fresh hle)
theorem walk_ef {f : Bool} {K : PySem.W.Frag} {a : Addr} {xs : List V} : Walk (Ief f K a) xs.length (fun H => Sq f K H a xs) (YPair (fun i => some (.int (i : Nat))) (fun i => xs[i]?)) :=
  ⟨fun i H hi q => ⟨xs, xs[i], q, by simp [hi]⟩, fun H q => ⟨xs, q, rfl⟩, fun i H v H' _ q ⟨T, x, e1, e2, e3, e4⟩ => ⟨T, .int (i : Nat), x, e1, e2, e3, rfl, e4 xs q⟩⟩
end Z
/-! Zr3: zip of any two of lists and tuples. -/
namespace Z
open PySem PySem.Spec PyProof.Rows L2

def Izf (f g : Bool) (K : PySem.W.Frag) (a b : Addr) : It :=
  ⟨fun i H => ∃ xs ys x y, Sq f K H a xs ∧ Sq g K H b ys ∧ xs[i]? = some x ∧ ys[i]? = some y,
    fun i H v H' => ∃ T x y, v = .ref T ∧ H T = none ∧ H' = upd H T (.tup [x, y]) ∧ (∀ xs, Sq f K H a xs → xs[i]? = some x) ∧ ∀ ys, Sq g K H b ys → ys[i]? = some y,
    fun i H => ∃ xs ys, Sq f K H a xs ∧ Sq g K H b ys ∧ min xs.length ys.length = i⟩
/-- the zip's five cells at N, .. N + 4, those of its two walks at N and N + 1 -/
theorem turn_zf {P : Program} {w : World} {K : PySem.W.Frag} {elts : List Expr} {kk : Nat} {tpos : Pos} (f g : Bool) (a b N : Addr) (ha : a < N) (hb : b < N) :
    Turn P w K (.Tuple elts kk tpos) (Izf f g K a b) [N + 4, N + 2, N + 3, N, N + 1] (N + 4)
      (fun i h => IsZip h (N + 4) (N + 2) (N + 3) .none ∧ IsTupOf2 h (N + 2) (.ref N) (.ref (N + 1)) ∧ (∃ x y, IsTupOf2 h (N + 3) x y) ∧ ItI f h N a i ∧ ItI g h (N + 1) b i) where
  mem := by simp
  obj := fun i h st c hc => by
    obtain ⟨hz, hTI, ⟨x, y, hTO⟩, h1, h2⟩ := st
    have e' : c = N + 4 ∨ c = N + 2 ∨ c = N + 3 ∨ c = N ∨ c = N + 1 := by simpa using hc
    rcases e' with q | q | q | q | q
    · rw [q]; exact ⟨_, hz, fun v q => nomatch q⟩
    · rw [q]; exact ⟨_, hTI, fun v q => nomatch q⟩
    · rw [q]; exact ⟨_, hTO, fun v q => nomatch q⟩
    · rw [q]; exact itI_obj h1
    · rw [q]; exact itI_obj h2
  keep := fun i h h' st k => by
    obtain ⟨hz, hTI, ⟨x, y, hTO⟩, h1, h2⟩ := st
    exact ⟨k _ (by simp) _ hz, k _ (by simp) _ hTI, ⟨x, y, k _ (by simp) _ hTO⟩, itI_at h1 fun o q => k _ (by simp) o q, itI_at h2 fun o q => k _ (by simp) o q⟩
  item := by
    intro X hP hw hK hc i pins s σ H E I hf st hg
    subst hP hw hK
    obtain ⟨xs, ys, x, y, hq, hq2, hx, hy⟩ := hg
    obtain ⟨its, rv, p, _, _⟩ := sq_get I hq
    obtain ⟨its2, rv2, p2, _, _⟩ := sq_get I hq2
    obtain ⟨u, hu, ru⟩ := rv.get hx
    obtain ⟨u2, hu2, ru2⟩ := rv2.get hy
    have D1 := draws_f (prog := X.prog) (w := X.w) (A := X.A.in1) f (I.ok.hd hc) N a (Nat.ne_of_lt ha) its.toArray
    have D2 := draws_f (prog := X.prog) (w := X.w) (A := X.A.in1) g (I.ok.hd hc) (N + 1) b (Nat.ne_of_lt (Nat.lt_succ_of_lt hb)) its2.toArray
    have W := GoesN.zip2 (elts := elts) (x1 := kk) (pos := tpos) (zip_sep2 (N := N) (fp1 := [a]) (fp2 := [b]) (by simpa using ha) (by simpa using hb)) D1 D2
    have e1 : i < its.length := (List.getElem?_eq_some_iff.mp hu).1
    have e2 : i < its2.length := (List.getElem?_eq_some_iff.mp hu2).1
    have hlt2 : i < min its.toArray.size its2.toArray.size := by
      rw [List.size_toArray, List.size_toArray]
      omega
    refine wpAny_mono (item_pair (fq := [N + 4, N + 2, N + 3, N, N + 1]) (x := x) (y := y) W I (fun b hb => ?_) hf hlt2 ⟨st.1, st.2.1, st.2.2.1, ⟨st.2.2.2.1, p⟩, ⟨st.2.2.2.2, p2⟩⟩ (fun z ez => ?_) (fun z ez => ?_)) (fun r s1 hr => ?_) fun _ _ q => q
    · have e' : b = N + 4 ∨ b = N + 3 ∨ b = N ∨ b = N + 1 := by simpa using hb
      rcases e' with q | q | q | q <;> rw [q] <;> simp
    · have e1 : u = z := by
        have : its[i]? = some z := by simpa using ez
        rw [hu] at this
        exact Option.some.inj this
      rw [← e1]
      exact ru
    · have e1 : u2 = z := by
        have : its2[i]? = some z := by simpa using ez
        rw [hu2] at this
        exact Option.some.inj this
      rw [← e1]
      exact ru2
    · obtain ⟨v, rfl, hv⟩ := hr
      refine ⟨v, rfl, wpAny_mono hv (fun _ s2 ⟨T, I2, ev, hT, hge, st2⟩ => ?_) fun _ _ q => q⟩
      refine ⟨.ref T, _, I2, by rw [ev] <;> rfl, ⟨T, x, y, rfl, hT, rfl, fun zs hz => by rw [sq_inj I hz hq]; exact hx, fun zs hz => by rw [sq_inj I hz hq2]; exact hy⟩,
        ⟨st2.1, st2.2.1, st2.2.2.1, st2.2.2.2.1.1, st2.2.2.2.2.1⟩, fun c hc => ?_⟩
      have hb' : c < s.heap.objs.size := by
        obtain ⟨hz, hTI, ⟨x, y, hTO⟩, h1, h2⟩ := st
        have e' : c = N + 4 ∨ c = N + 2 ∨ c = N + 3 ∨ c = N ∨ c = N + 1 := by simpa using hc
        rcases e' with q | q | q | q | q
        · rw [q]; exact Heap.lt_size hz
        · rw [q]; exact Heap.lt_size hTI
        · rw [q]; exact Heap.lt_size hTO
        · rw [q]; obtain ⟨o, q, _⟩ := itI_obj h1; exact Heap.lt_size q
        · rw [q]; obtain ⟨o, q, _⟩ := itI_obj h2; exact Heap.lt_size q
      rw [upd_ne (Nat.ne_of_lt (Nat.lt_of_lt_of_le hb' hge))]
      exact (hf c hc).1
  done := by
    intro X hP hw hK hc i pins s σ H E I hf st hg
    subst hP hw hK
    obtain ⟨xs, ys, hq, hq2, hn⟩ := hg
    obtain ⟨its, rv, p, _, _⟩ := sq_get I hq
    obtain ⟨its2, rv2, p2, _, _⟩ := sq_get I hq2
    have D1 := draws_f (prog := X.prog) (w := X.w) (A := X.A.in1) f (I.ok.hd hc) N a (Nat.ne_of_lt ha) its.toArray
    have D2 := draws_f (prog := X.prog) (w := X.w) (A := X.A.in1) g (I.ok.hd hc) (N + 1) b (Nat.ne_of_lt (Nat.lt_succ_of_lt hb)) its2.toArray
    have W := GoesN.zip2 (elts := elts) (x1 := kk) (pos := tpos) (zip_sep2 (N := N) (fp1 := [a]) (fp2 := [b]) (by simpa using ha) (by simpa using hb)) D1 D2
    have l1 := rv.length
    have l2 := rv2.length
    have hn2 : min its.toArray.size its2.toArray.size = i := by
      rw [List.size_toArray, List.size_toArray]
      omega
    refine item_stop (fq := [N + 4, N + 2, N + 3, N, N + 1]) W I (fun b hb => ?_) hf ?_
    · have e' : b = N + 4 ∨ b = N + 3 ∨ b = N ∨ b = N + 1 := by simpa using hb
      rcases e' with q | q | q | q <;> rw [q] <;> simp
    · rw [hn2]
      exact ⟨st.1, st.2.1, st.2.2.1, ⟨st.2.2.2.1, p⟩, ⟨st.2.2.2.2, p2⟩⟩
  self := fun A i s Q E st h => wpAny_pyIter_zip st.1 h
def iZf (f g : Bool) (K : PySem.W.Frag) (ta : TA) : TI := fun σ H R => ta σ H fun vs H1 => ∃ a b xs ys, vs = [.ref a, .ref b] ∧ Sq f K H1 a xs ∧ Sq g K H1 b ys ∧ R (Izf f g K a b) H1
theorem pi_zf {X : Cx} {e e2 : Expr} {ta : TA} {p pos tpos : Pos} {elts : List Expr} {kk : Nat} (f g : Bool) (hg : Gl X "zip") (hm : X.mg "zip" = none) (ha : PA X [e, e2] ta)
    (hs : starEach [e, e2] X.env = (false, eval e X.env) :: starEach [e2] X.env := by rfl) (hpl : (backTo pos (starEach [e2] X.env)).any (·.1) = false := by rfl) :
    PI X (.Tuple elts kk tpos) (.Call (.Name "zip" p) [e, e2] [] pos) (iZf f g X.K ta) := by
  refine ⟨fun pins s σ H R I h => ?_⟩
  refine Call_ (ld_blt I hg hm PyProof.Rows.boot_zip (PyProof.Rows.callWith_type1 (thn (ha.run pos pins s σ H _ I h) fun us s1 ⟨vs, H1, I1, r1, q1⟩ => ?_) hs hpl))
  obtain ⟨a, b, xs, ys, ex, hq, hq2, q⟩ := q1
  subst ex
  obtain ⟨u, v, rfl, r, r'⟩ := Vals.two r1
  cases r
  cases r'
  obtain ⟨its, rv, p1, hlt, _⟩ := sq_get I1 hq
  obtain ⟨its2, rv2, p2, hlt2, _⟩ := sq_get I1 hq2
  refine zip_begins2 (begins_f f a its.toArray) (begins_f g b its2.toArray) p1 p2 fun h' hz hTI hTO h1 h2 hsz hk => wpAny_pyIter_zip hz ?_
  have I2 : L2.Inv X pins σ H1 { s1 with heap := h' } := I1.kept (t' := s1.toks) hk
  refine ⟨s1.heap.objs.size + 4, _, _, _, H1, rfl, I2, turn_zf f g a b s1.heap.objs.size hlt hlt2, ⟨hz, hTI, ⟨_, _, hTO⟩, itI_new h1, itI_new h2⟩, fun c hc => ?_, q⟩
  have hle : s1.heap.objs.size ≤ c := by
    have e' : c = s1.heap.objs.size + 4 ∨ c = s1.heap.objs.size + 2 ∨ c = s1.heap.objs.size + 3 ∨ c = s1.heap.objs.size ∨ c = s1.heap.objs.size + 1 := by simpa using hc
    rcases e' with z | z | z | z | z <;> rw [z] <;> first | exact Nat.le_refl _ | exact Nat.le_add_right _ _
  exact I1.fpOk hle (I1.hok.fresh hle)
theorem walk_zf {f g : Bool} {K : PySem.W.Frag} {a b : Addr} {xs ys : List V} : Walk (Izf f g K a b) (min xs.length ys.length) (fun H => Sq f K H a xs ∧ Sq g K H b ys) (YPair (fun i => xs[i]?) (fun i => ys[i]?)) :=
  ⟨fun i H hi q => ⟨xs, ys, xs[i]'(by omega), ys[i]'(by omega), q.1, q.2, by simp [show i < xs.length by omega], by simp [show i < ys.length by omega]⟩, fun H q => ⟨xs, ys, q.1, q.2, rfl⟩,
    fun i H v H' _ q ⟨T, x, y, e1, e2, e3, e4, e5⟩ => ⟨T, x, y, e1, e2, e3, e4 xs q.1, e5 ys q.2⟩⟩
end Z
/-! Zr4: len(set(x)) of a list or tuple of unlike ints; dict(t) of a tuple of pairs. -/
namespace Z
open PySem PySem.Spec PyProof.Rows L2

theorem nodup_len : ∀ {l l' : List Int}, l.Nodup → l'.Nodup → (∀ k, k ∈ l ↔ k ∈ l') → l.length = l'.length := fun {l l'} h h' e =>
  (List.perm_ext_iff_of_nodup h h').mpr e |>.length_eq
def tLenSetA (K : PySem.W.Frag) (ta : TE) : TE := fun σ H Q => ta σ H fun x H1 => ∃ (f : Bool) (l : Addr) (ns : List Int), x = .ref l ∧ Sq f K H1 l (ns.map V.int) ∧ ns.Nodup ∧ ns.length ≤ 4000 ∧ Q (.int (ns.length : Nat)) H1
theorem pe_lenSetA {X : Cx} {a : Expr} {ta : TE} {p p2 q pos : Pos} (hg : Gl X "len") (hm : X.mg "len" = none) (hg2 : Gl X "set") (hm2 : X.mg "set" = none) (ha : PE X a ta) (hc : X.calm = true := by rfl)
    (na : starEach [a] X.env = (false, eval a X.env) :: starEach [] X.env := by rfl) : PE X (.Call (.Name "len" p) [.Call (.Name "set" p2) [a] [] q] [] pos) (tLenSetA X.K ta) := by
  refine ⟨fun pins s σ H Q I h => ?_⟩
  refine Call_ (ld_blt I hg hm boot_len ?_)
  refine PyProof.Rows.callWith_builtin1 (PyProof.Rows.args_cons ?_ rfl) rfl rfl
  refine Call_ (ld_blt I hg2 hm2 boot_set ?_)
  refine PyProof.Rows.callWith_type1 (PyProof.Rows.args_cons (thn (ha.run pins s σ H _ I h) fun v s1 ⟨x, H1, I1, r1, q1⟩ => PyProof.Rows.args_nil ?_) na) na rfl
  obtain ⟨f, l, ns, rfl, hq, hnd, hl, q1⟩ := q1
  cases r1
  cases f with
  | false =>
    obtain ⟨its, r, pl, hz⟩ := I1.list hq
    have hlen : its.toArray.size = ns.length := by rw [List.size_toArray, ← r.length, List.length_map]
    refine call_set_list (I1.ok.hd hc) pl.isList (by simpa using RZ.intsAre_vals r) (by rw [hlen]; unfold scanBound; omega) fun h' tk hS hk => ?_
    refine PyProof.Rows.args_nil ?_
    rw [hlen, RZ.firstMet_nodup hnd ns.length (Nat.le_refl _), List.take_length] at hS
    obtain ⟨o, es, ep, t, ho, hex, hd, _, _, _, hf, hn⟩ := hS
    have I2 : L2.Inv X pins σ H1 { s1 with heap := h', toks := tk } := I1.kept fun b o e => hk b o (Heap.lt_size e) e
    exact call_len_set ho hex hd hf (by rw [hn] <;> omega) ⟨.int ns.length, H1, I2.tok _, ⟨_, by rw [hn]⟩, q1⟩
  | true =>
    obtain ⟨its, r, pl, hz⟩ := I1.tuple hq
    refine L2.call_set_tupI ns (I1.ok.hd hc) (show s1.heap.IsTuple l its.toArray from pl) (by simpa using RZ.intsAre_vals r) (by unfold scanBound; omega) fun h' tk c R1 hcn k => ?_
    refine PyProof.Rows.args_nil ?_
    obtain ⟨o, es, ep, t, ho, hex, hdt, g, nd, hm2, hb, hf, hn, _⟩ := R1
    have hl2 : (es.toList.map keyOf).length = ns.length := nodup_len nd hnd fun k => by rw [← hm2 k, decide_eq_true_eq]
    rw [List.length_map, Array.length_toList] at hl2
    have I2 : L2.Inv X pins σ H1 { s1 with heap := h', toks := tk } := I1.kept fun b o e => k b o e
    exact call_len_set ho hex hdt hf (by rw [hl2] <;> omega) ⟨.int ns.length, H1, I2.tok _, ⟨_, by rw [hl2]⟩, q1⟩

/-! ### a tuple known to have no dict of its own -/
def PlainT (H : Hp) (v : V) (ys : List V) : Prop := ∃ a o, v = .ref a ∧ H a = some (.frz o (.tup ys)) ∧ o.dict = none
/-- tuple(xs) of a list: the new tuple, known as the object it is -/
theorem call_tuple_frz {X : Cx} : CallR X (.type "tuple") (fun xs H Q => ∃ p ys, xs = [.ref p] ∧ SqL X.K H p ys ∧ ∀ l o, H l = none → o.dict = none → Q (.ref l) (upd H l (.frz o (.tup ys)))) := by
  intro pins s σ H xs us Q I r h
  obtain ⟨p, ys, rfl, hq, q⟩ := h
  obtain ⟨its, rv, pl, hz⟩ := I.list hq
  obtain ⟨u, rfl, ru⟩ := Vals.one r
  cases ru
  have hlen := rv.length
  refine call_tuple_list pl.isList (fun h' kp => ?_) (by rw [List.size_toArray]; omega)
  have I1 : L2.Inv X pins σ H { s with heap := h' } := I.kept (t' := s.toks) kp
  have new : (h'.push { cls := .type "tuple", data := .seq its.toArray }).get? h'.objs.size = some ({ cls := .type "tuple", data := .seq its.toArray } : Obj) := Heap.get?_push_size _ rfl
  refine ⟨.ref h'.objs.size, _, I1.laid (t' := s.toks) (o := .frz { cls := .type "tuple", data := .seq its.toArray } (.tup ys)) (fun b o e => Heap.get?_push_of_some _ e) (Nat.le_refl _) ?_, rfl, q _ _ (I1.hok.fresh (Nat.le_refl _)) rfl⟩
  exact ⟨new, hz, its, rv, IsTup.new _ _⟩
theorem call_tuple_any {X : Cx} : CallR X (.type "tuple") (fun xs H Q => (∃ p ys, xs = [.ref p] ∧ ((SqL X.K H p ys ∧ ∀ l, H l = none → Q (.ref l) (upd H l (.tup ys))) ∨ (SqT X.K H p ys ∧ Q (.ref p) H))) ∨
    (∃ p ys, xs = [.ref p] ∧ SqL X.K H p ys ∧ ∀ l o, H l = none → o.dict = none → Q (.ref l) (upd H l (.frz o (.tup ys))))) := call_tuple_of.or call_tuple_frz

/-! ### dict(t) -/
/-- the items are pairs of a key and a value -/
def PairV (K : PySem.W.Frag) (H : Hp) (v : V) (kv : L2.Key × V) : Prop := ∃ p, v = .ref p ∧ SqT K H p [kV kv.1, kv.2]
def rDictT (K : PySem.W.Frag) : List V → Hp → VK → Prop := fun xs H Q => ∃ (x : V) (ys : List V) (kvs : List (L2.Key × V)), xs = [x] ∧ PlainT H x ys ∧ Paired (PairV K H) ys kvs ∧ ys.length ≤ 100000 ∧
  ∀ p, H p = none → Q (.ref p) (upd H p (.dK (mergeK [] kvs)))
theorem pair_at {X : Cx} {pins : List (Addr × Obj)} {σ : L2.St} {H : Hp} {s : Shared} (I : L2.Inv X pins σ H s) : ∀ {ys : List V} {us : List Value} {kvs : List (L2.Key × V)}, Vals ys us → Paired (PairV X.K H) ys kvs →
    ∃ (ts : List Addr) (ps : List (Value × Value)) (prs : List (L2.Key × Value)), KV kvs prs ∧ ps.length = us.length ∧ prs.length = us.length ∧ ts.length = us.length ∧
      (∀ (j : Nat) (k v : Value), ps[j]? = some (k, v) → ∃ (T : Addr) (q : L2.Key), us[j]? = some (.ref T) ∧ ts[j]? = some T ∧ s.heap.IsTuple T #[k, v] ∧ prs[j]? = some (q, v) ∧ keyIs q k = true)
  | [], _, _, .nil, .nil => ⟨[], [], [], .nil, rfl, rfl, rfl, fun j k v e => by simp at e⟩
  | y :: ys, u :: us, kv :: kvs, .cons r rr, .cons p pp => by
    obtain ⟨ts, ps, prs, h1, h2, h3, h4, h5⟩ := pair_at I rr pp
    obtain ⟨T, rfl, hT⟩ := p
    cases r
    obtain ⟨its, rv, ht, _⟩ := I.tuple hT
    obtain ⟨k, v, rfl, rk, rw'⟩ := Vals.two rv
    refine ⟨T :: ts, (k, v) :: ps, (kv.1, v) :: prs, .cons ⟨rfl, rw'⟩ h1, by simp [h2], by simp [h3], by simp [h4], fun j k' v' e => ?_⟩
    cases j with
    | zero =>
      have e : (k, v) = (k', v') := by simpa using e
      cases e
      exact ⟨T, kv.1, rfl, rfl, ht, rfl, kV_is (P := X.prog) (w := X.w) rk⟩
    | succ j =>
      obtain ⟨T', q, a1, a2, a3, a4, a5⟩ := h5 j k' v' (by simpa using e)
      exact ⟨T', q, by simpa using a1, by simpa using a2, a3, by simpa using a4, a5⟩
theorem cr_dictT {X : Cx} (hc : X.calm = true) : CallR X (.type "dict") (rDictT X.K) := by
  intro pins s σ H xs us Q I r h
  obtain ⟨x, ys, kvs, rfl, ⟨a, o, rfl, hq, hd⟩, hp, hz, q⟩ := h
  obtain ⟨u, rfl, ru⟩ := Vals.one r
  cases ru
  obtain ⟨ho, hl, its, rv, ⟨o', ho', hcls, n, hdat⟩⟩ := I.hok a _ hq
  rw [ho] at ho'
  cases ho'
  obtain ⟨ts, ps, prs, k1, k2, k3, k4, k5⟩ := pair_at I rv hp
  have P := PairArg.tuple (prog := X.prog) (w := X.w) a its.toArray (fun j => ts.getD j 0) ps
  have hlen := rv.length
  refine call_dict_pairs (A := X.A) (knd := mixKind X.prog X.w) (kvs := prs) P (I.ok.hd hc) ⟨⟨o, n, ho, hcls, hd, hdat⟩, by rw [List.size_toArray, k2], fun j k v e => ?_⟩ ⟨by rw [k3, k2], fun j key v e => ?_⟩ (by rw [k2, ← hlen, sizeLine_eq]; omega) fun h' tk hD hk => ?_
  · obtain ⟨T, q', e1, e2, e3, _⟩ := k5 j k v e
    have eT : ts.getD j 0 = T := by rw [List.getD_eq_getElem?_getD, e2] <;> rfl
    show its.toArray[j]? = some (Value.ref (ts.getD j 0)) ∧ PairAt s.heap (ts.getD j 0) k v
    rw [eT]
    exact ⟨by simpa using e1, .inl e3⟩
  · obtain ⟨T, q', e1, e2, e3, e4, e5⟩ := k5 j key v e
    exact ⟨q', e4, e5⟩
  · have hk' : ∀ b ob, s.heap.get? b = some ob → h'.get? b = some ob := fun b ob e => hk b ob (by simp) e
    have hm : KV (mergeK [] kvs) (merged [] prs) := KV.merge (kvs := []) (vs := []) k1 .nil
    have hlm : (mergeK [] kvs).length ≤ sizeLine := by
      have := length_mergeK kvs []
      have e1 := Paired.length hp
      rw [sizeLine_eq]
      simp at this
      omega
    refine ⟨.ref s.heap.objs.size, _, I.laid (t' := tk) (o := .dK (mergeK [] kvs)) (h' := h') hk' (Nat.le_refl _) ?_, rfl, q _ (I.hok.fresh (Nat.le_refl _))⟩
    exact ⟨hlm, beq_eq_false_iff_ne.mpr (Nat.ne_of_gt I.big), _, hm, hD⟩
end Z
/-! Zc: a lambda with captured names, handed out of the def that made it, called later. Its function object, its code object and its cells are known to the abstract heap. -/
namespace Z
open PySem PySem.Spec PyProof.Rows L2 LamX NdefX

/-- its words, the cells it captured, its code object -/
structure LF where
  qual : Str
  params : Arguments
  body : Expr
  scope : Scope
  cl : List (Str × Addr)
  c : Addr
abbrev LF.nf (L : LF) : NF := ⟨"<lambda>", L.qual, L.params, [], L.scope, L.cl, L.c⟩
def LF.cells (L : LF) : List Addr := L.cl.map (·.2)
def LamO (f : Addr) (L : LF) : HO := .ext fun h => ∃ pm ctv, h.get? f = some (PySem.W.kla_obj "<lambda>" L.qual L.params L.body L.scope L.cl pm L.c ctv)
def CellO (c : Addr) (v : V) : HO := .ext fun h => ∃ u, L2.RelV v u ∧ h.IsCell c (some u)
theorem lamO_ok {P : Program} {w : World} {H : Hp} {h : Heap} {f : Addr} {L : LF} {pm ctv : Value} (e : h.get? f = some (PySem.W.kla_obj "<lambda>" L.qual L.params L.body L.scope L.cl pm L.c ctv)) : ObjOk P w H h f (LamO f L) :=
  ⟨⟨pm, ctv, e⟩, ⟨_, e⟩, fun _ _ ⟨pm, ctv, q⟩ st => ⟨pm, ctv, st _ q⟩⟩
theorem cellO_ok {P : Program} {w : World} {H : Hp} {h : Heap} {c : Addr} {v : V} {u : Value} (r : L2.RelV v u) (e : h.IsCell c (some u)) : ObjOk P w H h c (CellO c v) := by
  obtain ⟨o, ho, hd⟩ := e
  exact ⟨⟨u, r, o, ho, hd⟩, ⟨o, ho⟩, fun _ _ ⟨u, r, o, ho, hd⟩ st => ⟨u, r, o, st _ ho, hd⟩⟩
theorem lamO_at {P : Program} {w : World} {H : Hp} {h : Heap} {f : Addr} {L : LF} (ok : HOk P w H h) (e : H f = some (LamO f L)) : ∃ pm ctv, h.get? f = some (PySem.W.kla_obj "<lambda>" L.qual L.params L.body L.scope L.cl pm L.c ctv) := (ok f _ e).1
theorem cellO_at {P : Program} {w : World} {H : Hp} {h : Heap} {c : Addr} {v : V} (ok : HOk P w H h) (e : H c = some (CellO c v)) : ∃ u, L2.RelV v u ∧ h.IsCell c (some u) := (ok c _ e).1

/-- at f stands the lambda L, whose captured names fr hold ws -/
structure CloAt (H : Hp) (f : Addr) (L : LF) (fr : List Str) (ws : List V) : Prop where
  fn : H f = some (LamO f L)
  code : H L.c = some (CodeO L.c L.qual)
  len : ws.length = fr.length
  inj : ∀ x y c, L.cl.lookup x = some c → L.cl.lookup y = some c → x = y
  has : ∀ (i : Nat) (y : Str), fr[i]? = some y → ∃ c v, L.cl.lookup y = some c ∧ ws[i]? = some v ∧ H c = some (CellO c v)
  all : ∀ c ∈ L.cells, ∃ v, H c = some (CellO c v)
theorem CloAt.keep {H H' : Hp} {f : Addr} {L : LF} {fr : List Str} {ws : List V} (C : CloAt H f L fr ws) (e : ∀ b φ, H b = some (.ext φ) → H' b = some (.ext φ)) : CloAt H' f L fr ws :=
  ⟨e _ _ C.fn, e _ _ C.code, C.len, C.inj, fun i y h => by
    obtain ⟨c, v, h1, h2, h3⟩ := C.has i y h
    exact ⟨c, v, h1, h2, e _ _ h3⟩, fun c hc => by
    obtain ⟨v, h⟩ := C.all c hc
    exact ⟨v, e _ _ h⟩⟩

/-- the heap without the cells cs; with them again -/
def hid (H : Hp) (cs : List Addr) : Hp := fun b => if b ∈ cs then none else H b
def unhid (H : Hp) (cs : List Addr) (H' : Hp) : Hp := fun b => if b ∈ cs then H b else H' b
theorem hid_in {H : Hp} {cs : List Addr} {b : Addr} (h : b ∈ cs) : hid H cs b = none := if_pos h
theorem hid_out {H : Hp} {cs : List Addr} {b : Addr} (h : b ∉ cs) : hid H cs b = H b := if_neg h
theorem unhid_in {H H' : Hp} {cs : List Addr} {b : Addr} (h : b ∈ cs) : unhid H cs H' b = H b := if_pos h
theorem unhid_out {H H' : Hp} {cs : List Addr} {b : Addr} (h : b ∉ cs) : unhid H cs H' b = H' b := if_neg h
section
variable {P : Program} {w : World} {H H' : Hp} {h h' : Heap} {cs : List Addr}
/-- what stands at cs are cells -/
def CellsIn (H : Hp) (cs : List Addr) : Prop := ∀ c ∈ cs, ∃ v, H c = some (CellO c v)
theorem CellsIn.no {b : Addr} {o : HO} (C : CellsIn H cs) (e : H b = some o) (n : ∀ v, o ≠ CellO b v) : b ∉ cs := fun hm => by
  obtain ⟨v, q⟩ := C b hm
  rw [e] at q
  exact n v (Option.some.inj q)
theorem hid_eq {b : Addr} {o : HO} (C : CellsIn H cs) (e : H b = some o) (n : ∀ v, o ≠ CellO b v) : hid H cs b = some o := (hid_out (C.no e n)).trans e
theorem hid_ok (C : CellsIn H cs) (ok : HOk P w H h) : HOk P w (hid H cs) h := fun b o e => by
  by_cases hb : b ∈ cs
  · rw [hid_in hb] at e
    cases e
  · rw [hid_out hb] at e
    exact (ok b o e).stay (fun _ _ _ q => q) (fun c q => hid_eq C q fun v z => by cases z) fun c xs q => hid_eq C q fun v z => by cases z
theorem hid_env {K : PySem.W.Frag} {mg : Str → Option Value} {base : Heap} {A : Around} {outer : List Env} {s : Shared} (C : CellsIn H cs) (e : Env0 P w K mg base A outer s H) : Env0 P w K mg base A outer s (hid H cs) := by
  refine ⟨e.frames, e.mod, fun b o q => ⟨(e.bs b o q).1, ?_⟩, e.bsz, e.funs, fun b hb => ?_, hid_ok C e.hok, e.bare⟩
  · by_cases hb : b ∈ cs
    · exact hid_in hb
    · exact (hid_out hb).trans (e.bs b o q).2
  · by_cases hc : b ∈ cs
    · exact hid_in hc
    · exact (hid_out hc).trans (e.frf b hb)
/-- behind the call: with the cells again -/
theorem unhid_end {fs : List Addr} (C : CellsIn H cs) (ok : HOk P w H h) (nf : ∀ b ∈ fs, H b = none) (u : Un fs [] (hid H cs) H' h h') (ok' : HOk P w H' h') :
    Un fs [] H (unhid H cs H') h h' ∧ HOk P w (unhid H cs H') h' := by
  have cin : ∀ c ∈ cs, H' c = none ∧ ∀ o, h.get? c = some o → h'.get? c = some o := fun c hc => by
    obtain ⟨v, q⟩ := C c hc
    obtain ⟨z, r, o, ho, hd⟩ := cellO_at ok q
    have nfs : c ∉ fs := fun hm => by
      have := nf c hm
      rw [q] at this
      cases this
    refine ⟨u.free c o ho (hid_in hc) (by simp), fun o' ho' => u.keep c o' ho' (hid_in hc) nfs (by simp)⟩
  have out : ∀ b o, H b = some o → (∀ v, o ≠ CellO b v) → b ∉ cs := fun b o e n => C.no e n
  refine ⟨⟨fun b o e n hb hx => u.keep b o e (by
      by_cases hc : b ∈ cs
      · exact hid_in hc
      · exact (hid_out hc).trans n) hb hx, fun b o e n hb hx => u.slot b o e (by
      by_cases hc : b ∈ cs
      · exact hid_in hc
      · exact (hid_out hc).trans n) hb hx, fun b o e n hx => ?_, u.there, fun b xs e => ?_, fun b o v e => ?_, fun b ps e => ?_⟩, fun b o e => ?_⟩
  · by_cases hc : b ∈ cs
    · exact (unhid_in hc).trans n
    · exact (unhid_out hc).trans (u.free b o e ((hid_out hc).trans n) hx)
  · have hc := out b _ e (fun v z => by cases z)
    exact (unhid_out hc).trans (u.tups b xs ((hid_out hc).trans e))
  · have hc := out b _ e (fun v z => by cases z)
    exact (unhid_out hc).trans (u.frzs b o v ((hid_out hc).trans e))
  · have hc := out b _ e (fun v z => by cases z)
    obtain ⟨more, q⟩ := u.tbls b ps ((hid_out hc).trans e)
    exact ⟨more, (unhid_out hc).trans q⟩
  · by_cases hc : b ∈ cs
    · rw [unhid_in hc] at e
      obtain ⟨v, q⟩ := C b hc
      rw [q] at e
      cases e
      obtain ⟨z, r, o, ho, hd⟩ := cellO_at ok q
      exact cellO_ok r ⟨o, (cin b hc).2 o ho, hd⟩
    · rw [unhid_out hc] at e
      have st : ∀ c o, H' c = some o → unhid H cs H' c = some o := fun c o q => (unhid_out (fun hm => by
        rw [(cin c hm).1] at q
        cases q)).trans q
      exact (ok' b o e).stay (fun _ _ _ q => q) (fun c q => st c _ q) fun c xs q => st c _ q
end

/-! ### the call -/
section
variable {P : Program} {w : World} {K : PySem.W.Frag} {mg : Str → Option Value} {base : Heap}
theorem CloAt.cellsIn {H : Hp} {f : Addr} {L : LF} {fr : List Str} {ws : List V} (C : CloAt H f L fr ws) : CellsIn H L.cells := C.all
theorem CloAt.cells {H : Hp} {f : Addr} {L : LF} {fr : List Str} {ws : List V} {h : Heap} (C : CloAt H f L fr ws) (ok : HOk P w H h) : CellsAt L.nf.cl fr (ws.map some) h (hid H L.cells) := by
  have mem : ∀ y c, L.cl.lookup y = some c → c ∈ L.cells := fun y c e => List.mem_map.mpr ⟨(y, c), PySem.mem_of_lookup e, rfl⟩
  refine ⟨by rw [List.length_map]; exact C.len, fun y c e => ⟨hid_in (mem y c e), ?_⟩, C.inj, fun i y e => ?_⟩
  · obtain ⟨v, q⟩ := C.all c (mem y c e)
    obtain ⟨u, r, z⟩ := cellO_at ok q
    exact ⟨_, z⟩
  · obtain ⟨c, v, h1, h2, h3⟩ := C.has i y e
    refine ⟨c, h1, fun v' e' => ?_⟩
    rw [List.getElem?_map, h2] at e'
    cases e'
    exact cellO_at ok h3
/-- a lambda of these words, called: its body as a term, the reading of that term -/
theorem clo_run {N ps fr : List Str} {L : LF} {f : Addr} {A : Around} {outer : List Env} {s : Shared} {H : Hp} {us : List Value} {vs ws : List V} {k : Nat} {Q : VK} {t : TE} (S : NScope N ps fr L.scope) (hr : Room (k + 1) A) (e0 : Env0 P w K mg base A outer s H)
    (C : CloAt H f L fr ws) (hb : ∀ pm ctv, bindArgs (PySem.W.kla_fn "<lambda>" L.qual L.params L.body L.scope L.cl pm (.ref L.c) ctv) ⟨us, []⟩ = pure (ps.zip us)) (r : Vals vs us) (hl : vs.length = ps.length)
    (hbody : Room k (A.deeper (envF L.nf f s.heap.objs.size)) → PE (ncx CX0 P w K mg base N L.nf f A outer s (hid H L.cells) E0).nox L.body t) (ht : t (startF N vs (ws.map some)) (hid H L.cells) fun v H' => (∀ c ∈ L.cells, H' c = none) → Q v (unhid H L.cells H')) :
    codeAny (model P w) A (.call (.ref f) ⟨us, []⟩) (CR CX0 outer P w H s Q E0) s := by
  have lim : s.heap.NoLimit := e0.mod.nolimit.keeps fun b o e => (e0.bs b o e).1
  obtain ⟨pm, ctv, ho⟩ := lamO_at e0.hok C.fn
  refine PySem.W.kla_callFunE hr.depth ho rfl S.co S.gen rfl (codeO_at e0.hok C.code) ?_
  rw [hb pm ctv]
  refine wpAny_pure (wpAny_newFunctionEnv S.nocell (fun ⟨n, _⟩ hy => S.par n (List.of_mem_zip hy).1) (fun h₁ hns hsb => ⟨lim.fresh _ hsb, ?_⟩) S.kind)
  show codeAny _ _ (.expr L.body (envF L.nf f s.heap.objs.size)) _ _
  have kp : ∀ b o, s.heap.get? b = some o → h₁.get? b = some o := fun b o e => hsb.extBut b o (Nat.ne_of_lt (Heap.lt_size e)) (Heap.get?_push_of_some _ e)
  have I : L2.Inv (ncx CX0 P w K mg base N L.nf f A outer s (hid H L.cells) E0) [] (startF N vs (ws.map some)) (hid H L.cells) { s with heap := h₁, toks := s.toks + (ps.zip us).length } :=
    inv_startN S hr.hd (hid_env C.cellsIn e0) hl r (C.cells e0.hok) hns kp
  refine PySem.W.kla_codeExpr (wpAny_mono ((hbody (hr.deeper _)).nox.run [] _ _ _ _ I ht) (fun u s' hq => ?_) fun e s' hq => hq)
  obtain ⟨v, H', J, rv, q⟩ := hq
  obtain ⟨u1, u2⟩ := unhid_end C.cellsIn e0.hok e0.frf J.base J.hok
  exact ⟨v, _, J.os, J.bare, u1, u2, rv, q fun c hc => by
    obtain ⟨v, z⟩ := C.cellsIn c hc
    obtain ⟨_, r, o, ho, hd⟩ := cellO_at e0.hok z
    exact J.base.free c o ho (hid_in hc) List.not_mem_nil⟩
end
end Z
/-! Zd: a def whose body hands out a lambda that captures its parameters. -/
namespace Z
open PySem PySem.Spec PyProof.Rows L2 LamX NdefX

/-- a lambda's words -/
structure LW where
  qual : Str
  params : Arguments
  body : Expr
  scope : Scope
abbrev LW.at (W : LW) (cl : List (Str × Addr)) (c : Addr) : LF := ⟨W.qual, W.params, W.body, W.scope, cl, c⟩
/-- at f stands a lambda of these words, its captured names hold ws -/
def CloW (H : Hp) (f : Addr) (W : LW) (fr : List Str) (ws : List V) : Prop := ∃ cl c, CloAt H f (W.at cl c) fr ws
theorem CloW.keep {H H' : Hp} {f : Addr} {W : LW} {fr : List Str} {ws : List V} (C : CloW H f W fr ws) (e : ∀ b φ, H b = some (.ext φ) → H' b = some (.ext φ)) : CloW H' f W fr ws := by
  obtain ⟨cl, c, q⟩ := C
  exact ⟨cl, c, q.keep e⟩

/-- f, then the cells of cl with the values that the names have, over H -/
def trk (H : Hp) (f : Addr) (L : LF) (val : Str → V) : Hp := fun b => if b = f then some (LamO f L) else match L.cl.find? (fun p => decide (p.2 = b)) with
  | some p => some (CellO b (val p.1))
  | none => H b
theorem trk_f {H : Hp} {f : Addr} {L : LF} {val : Str → V} : trk H f L val f = some (LamO f L) := if_pos rfl
theorem trk_out {H : Hp} {f b : Addr} {L : LF} {val : Str → V} (h : b ≠ f) (n : b ∉ L.cells) : trk H f L val b = H b := by
  unfold trk
  rw [if_neg h]
  have e : L.cl.find? (fun p => decide (p.2 = b)) = none := List.find?_eq_none.mpr fun p hp q => n (List.mem_map.mpr ⟨p, hp, of_decide_eq_true q⟩)
  rw [e]
theorem trk_in {H : Hp} {f b : Addr} {L : LF} {val : Str → V} (h : b ≠ f) (n : b ∈ L.cells) : ∃ y, (y, b) ∈ L.cl ∧ trk H f L val b = some (CellO b (val y)) := by
  unfold trk
  rw [if_neg h]
  cases e : L.cl.find? (fun p => decide (p.2 = b)) with
  | none =>
    obtain ⟨p, hp, hq⟩ := List.mem_map.mp n
    have := List.find?_eq_none.mp e p hp
    simp [hq] at this
  | some p =>
    have h1 := List.mem_of_find?_eq_some e
    have h2 : p.2 = b := by
      have := List.find?_some e
      exact of_decide_eq_true this
    exact ⟨p.1, by rw [← h2]; exact h1, rfl⟩
section
variable {X : Cx} {σ : L2.St} {H H1 : Hp} {s s' : Shared}
/-- the state in which the lambda was made, all told -/
theorem made_end {fr : List Str} {ws : List V} {f c' : Addr} {W : LW} {val : Str → V} {pm ctv : Value} (I1 : L2.Inv X [] σ H1 s')
    (hex : X.ex = []) (hfree : ∀ y ∈ W.scope.names, y.2 = .free → X.env.scope.names.lookup y.1 = some .cell) (hfn : ∀ x, X.fn x = true) (hfr : ∀ y ∈ fr, (y, NameKind.free) ∈ W.scope.names) (hfr2 : ∀ y ∈ W.scope.names, y.2 = .free → y.1 ∈ fr)
    (hval : ∀ (i : Nat) (y : Str), fr[i]? = some y → ∃ j : Nat, X.N[j]? = some y ∧ σ[j]? = some (some (val y)) ∧ ws[i]? = some (val y)) (hlen : ws.length = fr.length)
    (hf : s'.heap.get? f = some (PySem.W.kla_obj "<lambda>" W.qual W.params W.body W.scope (cloFrom X.env.cells W.scope.names []) pm c' ctv)) (hsz : X.s_0.heap.objs.size ≤ f) (f1 : H1 f = none) (hc : H1 c' = some (CodeO c' W.qual)) :
    let L := W.at (cloFrom X.env.cells W.scope.names []) c'
    Un X.fs [] X.H_0 (trk H1 f L val) X.s_0.heap s'.heap ∧ HOk X.prog X.w (trk H1 f L val) s'.heap ∧ CloAt (trk H1 f L val) f L fr ws ∧ (∀ b o, H1 b = some o → trk H1 f L val b = some o) ∧ ∀ b ∈ L.cells, X.s_0.heap.objs.size ≤ b := by
  intro L
  have hfree2 : ∀ y ∈ W.scope.names, y.2 = .free → ∃ c, X.env.cells.lookup y.1 = some c := fun y hy e => I1.ok.has _ (.inl (hfree y hy e))
  have cin : ∀ y b, (y, b) ∈ L.cl → X.env.cells.lookup y = some b ∧ y ∈ fr := fun y b hm => by
    rcases cloFrom_mem hm with q | ⟨q1, q2⟩
    · cases q
    · obtain ⟨c1, e1⟩ := hfree2 _ q1 rfl
      have e1 : X.env.cells.lookup y = some c1 := e1
      rw [e1] at q2
      exact ⟨by rw [e1, q2] <;> rfl, hfr2 _ q1 rfl⟩
  have cellN : ∀ b ∈ L.cells, H1 b = none ∧ X.s_0.heap.objs.size ≤ b := fun b hb => by
    obtain ⟨p, hp, rfl⟩ := List.mem_map.mp hb
    have e := (cin p.1 p.2 hp).1
    exact ⟨I1.freeC _ _ e, I1.ok.cab _ _ (hfn _) e⟩
  have cellV : ∀ y b, (y, b) ∈ L.cl → ∃ u, L2.RelV (val y) u ∧ s'.heap.IsCell b (some u) := fun y b hm => by
    obtain ⟨e, hy⟩ := cin y b hm
    obtain ⟨i, hi⟩ := List.mem_iff_getElem?.mp hy
    obtain ⟨j, j1, j2, j3⟩ := hval i y hi
    have hk := hfree (y, .free) (hfr y hy) rfl
    obtain ⟨m, hn, hl⟩ := I1.loc
    obtain ⟨u, r, l⟩ := hl j y (val y) j1 j2 (.inr (.inl hk))
    rcases l with ⟨z, _⟩ | ⟨_, c2, e2, hcell⟩
    · have z' : X.env.scope.names.lookup y = some .local := z
      rw [show X.env.scope.names.lookup y = some .cell from hk] at z'
      cases z'
    · rw [e] at e2
      cases e2
      exact ⟨u, r, hcell⟩
  have stay : ∀ b o, H1 b = some o → trk H1 f L val b = some o := fun b o e => by
    rw [trk_out (fun z => by rw [z, f1] at e; cases e) fun hm => by rw [(cellN b hm).1] at e; cases e]
    exact e
  have nc' : c' ∉ L.cells := fun hm => by
    rw [(cellN c' hm).1] at hc
    cases hc
  have fnc : f ∉ L.cells := fun hm => by
    obtain ⟨p, hp, ep⟩ := List.mem_map.mp hm
    obtain ⟨u, _, o, ho, hd⟩ := cellV p.1 p.2 hp
    rw [ep, hf] at ho
    cases ho
    cases hd
  refine ⟨⟨?_, ?_, fun b o e n hx => ?_, ?_, fun b xs e => stay _ _ (I1.base.tups b xs e), fun b o u e => stay _ _ (I1.base.frzs b o u e), fun b ps e => ?_⟩, fun b o e => ?_, ⟨trk_f, stay _ _ hc, hlen, fun x y c e1 e2 => ?_, fun i y e => ?_, fun c hm => ?_⟩, stay, fun b hb => (cellN b hb).2⟩
  · have := I1.base.keep
    rw [hex] at this
    exact this
  · have := I1.base.slot
    rw [hex] at this
    exact this
  · have lt := Heap.lt_size e
    rw [trk_out (fun z => by rw [z] at lt; exact absurd (Nat.lt_of_lt_of_le lt hsz) (Nat.lt_irrefl _)) fun hm => absurd (Nat.lt_of_lt_of_le lt (cellN b hm).2) (Nat.lt_irrefl _)]
    have := I1.base.free
    rw [hex] at this
    exact this b o e n hx
  · have := I1.base.there
    rw [hex] at this
    exact this
  · obtain ⟨more, q⟩ := I1.base.tbls b ps e
    exact ⟨more, stay _ _ q⟩
  · by_cases hb : b = f
    · subst hb
      rw [trk_f] at e
      cases e
      exact lamO_ok hf
    · by_cases hm : b ∈ L.cells
      · obtain ⟨y, hy, q⟩ := trk_in (H := H1) (f := f) (val := val) hb hm
        rw [q] at e
        cases e
        obtain ⟨u, r, z⟩ := cellV y b hy
        exact cellO_ok r z
      · rw [trk_out hb hm] at e
        exact (I1.hok b o e).stay (fun _ _ _ q => q) (fun c q => stay _ _ q) fun c xs q => stay _ _ q
  · exact I1.ok.inj x y c (cin x c (PySem.mem_of_lookup e1)).1 (cin y c (PySem.mem_of_lookup e2)).1
  · obtain ⟨j, j1, j2, j3⟩ := hval i y e
    have hy := hfr y (List.mem_of_getElem? e)
    obtain ⟨b, hb⟩ := hfree2 _ hy rfl
    have hlk : L.cl.lookup y = some b := clo_has hfree2 hy hb
    have hm : b ∈ L.cells := List.mem_map.mpr ⟨(y, b), PySem.mem_of_lookup hlk, rfl⟩
    have hbf : b ≠ f := fun z => fnc (z ▸ hm)
    obtain ⟨y', hy', q⟩ := trk_in (H := H1) (f := f) (val := val) hbf hm
    have e1 : y' = y := I1.ok.inj y' y b (cin y' b hy').1 hb
    refine ⟨b, val y, hlk, j3, ?_⟩
    rw [q, e1]
  · have hbf : c ≠ f := fun z => fnc (z ▸ hm)
    obtain ⟨y', hy', q⟩ := trk_in (H := H1) (f := f) (val := val) hbf hm
    exact ⟨_, q⟩
end
end Z
/-! Ze: the def that makes a lambda keeps its promise. -/
namespace Z
open PySem PySem.Spec PyProof.Rows L2 LamX NdefX

section
variable {X : Cx} {pins : List (Addr × Obj)} {σ : L2.St} {H : Hp} {s : Shared}
/-- the table at P got the new code object c' -/
theorem tabs_more {T : List (Addr × Str)} {P c' : Addr} {q : Str} {pos : Pos} {ps : Array Value} (hT : Tabs T H) (hP : H P = some (.tbl ps)) (ht : TriplesOk ps.toList) (nC : H c' = none) (hu : ∀ p ∈ T, p.1 = P → p.2 = q)
    (ha : ∀ (pos : Pos) (cv : Value), codeAmong pos ps.toList = some cv → ∃ c, cv = .ref c ∧ H c = some (CodeO c q)) :
    ExtN H (upd (upd H P (.tbl (ps ++ #[rawInt pos.line, rawInt pos.col, .ref c']))) c' (CodeO c' q)) ∧ Tabs T (upd (upd H P (.tbl (ps ++ #[rawInt pos.line, rawInt pos.col, .ref c']))) c' (CodeO c' q)) := by
  have ext : ExtN H (upd (upd H P (.tbl (ps ++ #[rawInt pos.line, rawInt pos.col, .ref c']))) c' (CodeO c' q)) := by
    intro b o e n
    have b1 : b ≠ c' := ne_of_none e nC
    have b2 : b ≠ P := by
      intro z
      rw [z, hP] at e
      exact n ps (Option.some.inj e).symm
    rw [upd_ne b1, upd_ne b2]
    exact e
  have pc : P ≠ c' := ne_of_none hP nC
  refine ⟨ext, fun p hp => ?_⟩
  by_cases hb : p.1 = P
  · refine ⟨ps ++ #[rawInt pos.line, rawInt pos.col, .ref c'], by rw [hb, upd_ne pc, upd_same], ?_, fun pos' cv hcv => ?_⟩
    · rw [Array.toList_append]
      exact PySem.TriplesOk_snoc _ _ _ _ ht
    · rw [Array.toList_append] at hcv
      rw [hu p hp hb]
      rcases among_app _ ht hcv with z | z
      · obtain ⟨c0, e1, e2⟩ := ha pos' cv z
        exact ⟨c0, e1, ext _ _ e2 codeO_ne⟩
      · exact ⟨c', z, upd_same⟩
  · obtain ⟨qs, a1, a2, a3⟩ := hT p hp
    refine ⟨qs, by rw [upd_ne (ne_of_none a1 nC), upd_ne hb]; exact a1, a2, fun pos' cv hcv => ?_⟩
    obtain ⟨c0, e1, e2⟩ := a3 pos' cv hcv
    exact ⟨c0, e1, ext _ _ e2 codeO_ne⟩
/-- the lambda is made at a new address -/
theorem lam_new {T : List (Addr × Str)} {c P : Addr} {W : LW} {pos : Pos} {E : Value → Shared → Prop} {Q : Value → Shared → Prop} (I : L2.Inv X pins σ H s) (TB : TabB X.base X.mg c P) (hcode : X.env.code = .ref c) (hq : W.qual = X.env.qual ++ "<lambda>")
    (hm : (P, W.qual) ∈ T) (hu : ∀ p ∈ T, p.1 = P → p.2 = W.qual) (hT : Tabs T H) (hdef : defaultsOf W.params X.env = ([], [])) (hfree : ∀ y ∈ W.scope.names, y.2 = .free → ∃ c, X.env.cells.lookup y.1 = some c)
    (h : ∀ (f c' : Addr) (pm ctv : Value) (H1 : Hp) (s' : Shared), L2.Inv X pins σ H1 s' → ExtN H H1 → Tabs T H1 →
      s'.heap.get? f = some (PySem.W.kla_obj "<lambda>" W.qual W.params W.body W.scope (cloFrom X.env.cells W.scope.names []) pm c' ctv) → H1 f = none → s.heap.objs.size ≤ f → H1 c' = some (CodeO c' W.qual) → Q (.ref f) s') :
    wpAny (model X.prog X.w) X.A (eval (.Lambda W.params W.body W.scope pos) X.env) Q E s := by
  obtain ⟨ps, hP, ht, ha⟩ := hT _ hm
  refine PySem.W.kla_eval hdef ?_
  rw [← hq]
  have bP := TB.bm.keeps I.bk
  have gl := I.mod.glob.keeps I.bk
  have hd := TB.code.keeps I.bk
  have oP : s.heap.get? P = some { cls := .none, data := .fields ps } := I.hok P _ hP
  cases hc : codeAmong pos ps.toList with
  | some cv =>
    obtain ⟨c', rfl, hco⟩ := ha pos cv hc
    refine PySem.W.kla_makeFunctionHit (closure_ok hfree) I.ok.glob gl hcode hd oP ht hc bP fun ctv h' tk hx hsz => ?_
    refine h _ c' _ ctv H _ ?_ (ExtN.refl H) hT (Heap.get?_push_size _ rfl) (I.hok.fresh hsz) hsz hco
    exact I.kept fun b o e => Heap.get?_push_of_some _ (hx b o e)
  | none =>
    refine PySem.W.kla_makeFunction (closure_ok hfree) I.ok.glob gl hcode hd oP ht hc TB.gP bP fun c' ctv h' tk hx hge hlt hrec htb => ?_
    obtain ⟨c2, oc, vs, t, e2, hoc, hdt, hv⟩ := hrec
    obtain rfl : c' = c2 := by
      injection e2
    have nC : H c' = none := I.hok.fresh hge
    obtain ⟨x1, x2⟩ := tabs_more (pos := pos) hT hP ht nC hu ha
    have hsz : s.heap.objs.size ≤ h'.objs.size := Nat.le_trans hge (Nat.le_of_lt hlt)
    refine h _ c' _ ctv _ _ (inv_table I hP (fun b o hb e => Heap.get?_push_of_some _ (hx b o hb e)) (Heap.get?_push_of_some _ htb) hge ⟨oc, vs, t, Heap.get?_push_of_some _ hoc, hdt, hv⟩) x1 x2 (Heap.get?_push_size _ rfl) ?_ hsz upd_same
    have n2 : h'.objs.size ≠ P := Nat.ne_of_gt (Nat.lt_of_lt_of_le (Heap.lt_size oP) hsz)
    rw [upd_ne (Nat.ne_of_gt hlt), upd_ne n2]
    exact I.hok.fresh hsz
end

/-- what the maker promises: the lambda's address is new, all but the tables is as it was -/
def CloN (H H' : Hp) (f : Addr) (W : LW) (fr : List Str) (ws : List V) : Prop := ∃ cl c, CloAt H' f (W.at cl c) fr ws ∧ ∀ b ∈ cl.map (·.2), H b = none
def spMaker (T : List (Addr × Str)) (W : LW) (fr : List Str) (n : Nat) : Sp := fun vs H Q _ => vs.length = n ∧ Tabs T H ∧ ∀ (f : Addr) (H' : Hp), ExtN H H' → Tabs T H' → H f = none → CloN H H' f W fr vs → Q (.ref f) H'
/-- «def name(..): return lambda ..» whose lambda captures all its parameters, in their order -/
theorem ok_maker {P : Program} {w : World} {K : PySem.W.Frag} {mg : Str → Option Value} {base : Heap} {f c Pt : Addr} {name qual : Str} {params : Arguments} {scope : Scope} {dV kV doc pm ct oc : Value} {an od : Option Addr} {osl : Array (Option Value)} {W : LW} {pos rpos : Pos}
    {T : List (Addr × Str)} {fr : List Str} (lk : K.lookup f = some ⟨oc, od, .func (PySem.W.fnOf name qual params [.Return (some (.Lambda W.params W.body W.scope pos)) rpos] scope dV kV doc pm an (.ref c) ct), osl⟩) (hcd : PySem.W.codeIn K (.ref c) qual = true) (S : FnScope fr fr scope)
    (TB : TabB base mg c Pt) (hm : (Pt, W.qual) ∈ T) (hu : ∀ p ∈ T, p.1 = Pt → p.2 = W.qual) (hq : W.qual = qual ++ ".<locals>." ++ "<lambda>") (hdef : ∀ env, defaultsOf W.params env = ([], []))
    (hfree : ∀ y ∈ W.scope.names, y.2 = .free → scope.names.lookup y.1 = some .cell) (hfr : ∀ y ∈ fr, (y, NameKind.free) ∈ W.scope.names) (hfr2 : ∀ y ∈ W.scope.names, y.2 = .free → y.1 ∈ fr) :
    FnOk P w K mg base CX0 1 f (PySem.W.fnOf name qual params [.Return (some (.Lambda W.params W.body W.scope pos)) rpos] scope dV kV doc pm an (.ref c) ct) fr (spMaker T W fr fr.length) := by
  refine ⟨fun vs H Q E h => h.1, fun A outer s H args us vs Q E hr e0 hb r hsp => ?_⟩
  obtain ⟨hl, hT, hQ⟩ := hsp
  have KX : K.In s.heap := e0.mod.kin.keeps fun b o e => (e0.bs b o e).1
  have lim : s.heap.NoLimit := e0.mod.nolimit.keeps fun b o e => (e0.bs b o e).1
  refine codeAny_call_function hr.depth (KX _ _ lk) rfl S.co S.gen rfl (PySem.W.codeRec_of KX hcd) (hb _ _ _ _ ?_)
  refine wpAny_newFunctionEnv_cells S.kind (fun ⟨n, v⟩ hy => ?_) fun env he s1 x => ?_
  · rcases S.par n (List.of_mem_zip hy).1 with q | q
    · exact .inl q
    · exact .inr ⟨q, PySem.W.cellsFrom_some _ _ _ (.inl q)⟩
  subst he
  refine ⟨lim.keeps x.toInCall.keep, codeAny_func ?_⟩
  have I : L2.Inv (cxOf CX0 P w K mg base fr qual scope f (.ref c) A outer s H E) [] (L2.start fr vs) H s1 := inv_start S hr.hd e0 hl r x
  obtain ⟨h1, tk1, es1, hk1⟩ := x.done
  have hsz1 : s.heap.objs.size ≤ s1.heap.objs.size := I.sz
  have stn : L2.start fr vs = vs.map some := by
    unfold L2.start
    rw [hl, Nat.sub_self] <;> simp
  refine wpAny_execs_cons (wpAny_Return_some (lam_new (W := W) (pos := pos) (T := T) I TB rfl hq hm hu hT (hdef _) (fun y hy e => I.ok.has _ (.inl (hfree y hy e))) fun g c' pm' ctv H1 s' I1 eN T1 hg g1 hsz hco => ?_))
  · let val : Str → V := fun y => vs.getD (fr.idxOf y) .non
    have hval : ∀ (i : Nat) (y : Str), fr[i]? = some y → vs[i]? = some (val y) := fun i y e => by
      obtain ⟨hi, ei⟩ := List.getElem?_eq_some_iff.mp e
      have e2 : fr.idxOf y = i := by
        rw [← ei]
        exact List.Nodup.idxOf_getElem S.nd i hi
      show vs[i]? = some (vs.getD (fr.idxOf y) .non)
      rw [e2, List.getD_eq_getElem?_getD, List.getElem?_eq_getElem (by omega)] <;> rfl
    obtain ⟨k1, k2, k3, k4, k5⟩ := made_end (W := W) (fr := fr) (ws := vs) (val := val) I1 rfl hfree (fun _ => rfl) hfr hfr2 (fun i y e => ⟨i, e, by rw [stn, List.getElem?_map, hval i y e] <;> rfl, hval i y e⟩) hl hg (Nat.le_trans hsz1 hsz) g1 hco
    refine ⟨.ref g, _, I1.os, I1.bare, k1, k2, rfl, hQ g _ (fun b o e n => k4 _ _ (eN b o e n)) (T1.ext fun b o e => k4 b o e) ?_ ⟨_, _, k3, fun b hb => e0.hok.fresh (k5 b hb)⟩⟩
    exact e0.hok.fresh (Nat.le_trans hsz1 hsz)
end Z
/-! Zf: a closure called by a name of the frame, or as a field of an instance. -/
namespace Z
open PySem PySem.Spec PyProof.Rows L2 LamX NdefX

/-- R f vs H Q: called so, f ends as Q wants -/
structure Runs (P : Program) (w : World) (K : PySem.W.Frag) (mg : Str → Option Value) (base : Heap) (k : Nat) (R : Addr → List V → Hp → VK → Prop) : Prop where
  fn : ∀ f vs H Q, R f vs H Q → ∃ L, H f = some (LamO f L)
  run : ∀ (f : Addr) (A : Around) (outer : List Env) (s : Shared) (H : Hp) (us : List Value) (vs : List V) (Q : VK), Room k A → Env0 P w K mg base A outer s H → Vals vs us → R f vs H Q →
    codeAny (model P w) A (.call (.ref f) ⟨us, []⟩) (CR CX0 outer P w H s Q E0) s
theorem fnAt_lam {X : Cx} {pins : List (Addr × Obj)} {σ : L2.St} {H : Hp} {s : Shared} {f : Addr} (I : L2.Inv X pins σ H s) (h : ∃ L, H f = some (LamO f L)) : PySem.W.FnAt f s.heap := by
  obtain ⟨L, e⟩ := h
  obtain ⟨pm, ctv, ho⟩ := lamO_at I.hok e
  exact ⟨_, _, _, _, ho⟩
section
variable {X : Cx} {k : Nat} {R : Addr → List V → Hp → VK → Prop}
theorem run_clo {pins : List (Addr × Obj)} {σ : L2.St} {H : Hp} {s : Shared} {Q : VK} {f : Addr} {us : List Value} {vs : List V} (Rn : Runs X.prog X.w X.K X.mg X.base k R) (hr : Room k X.A) (I : L2.Inv X pins σ H s) (r : Vals vs us) (q : R f vs H Q) :
    wpAny (model X.prog X.w) X.A (call (.ref f) us) (EP X pins σ Q) X.xe s := by
  refine wpAny_call (codeAny_mono (Rn.run f X.A X.stack s H us vs Q hr I.env0 r q) fun r s' hq => ?_)
  cases r with
  | error e => exact (show False from hq).elim
  | ok fl =>
    cases fl with
    | ret u => exact I.after hq
    | next => exact False.elim hq
    | brk => exact False.elim hq
    | cont => exact False.elim hq
def tCloN (R : Addr → List V → Hp → VK → Prop) (i : Nat) (t : TA) : TE := fun σ H Q => ∃ f, σ[i]? = some (some (.ref f)) ∧ (∃ L, H f = some (LamO f L)) ∧ t σ H fun vs H1 => R f vs H1 Q
theorem pe_cloN {i : Nat} {x : Str} {e : Expr} {es : List Expr} {t : TA} {p pos : Pos} (Rn : Runs X.prog X.w X.K X.mg X.base k R) (hr : Room k X.A) (hN : X.N[i]? = some x) (hv : Vis X.env.scope x) (ha : PA X (e :: es) t)
    (hd : (x == ("__debug__" : Str)) = false := by decide) (hcd : (x == ("__classdict__" : Str)) = false := by decide)
    (he : starEach (e :: es) X.env = (false, eval e X.env) :: starEach es X.env := by rfl) (hpl : (backTo pos (starEach es X.env)).any (·.1) = false := by rfl) :
    PE X (.Call (.Name x p) (e :: es) [] pos) (tCloN R i t) := by
  refine ⟨fun pins s σ H Q I h => ?_⟩
  obtain ⟨f, hs, hf, ht⟩ := h
  refine wpAny_Call_Name_kw (thn ((pe_var (pos := p) hN hv hd hcd).run pins s σ H (fun v H1 => v = .ref f ∧ H1 = H) I ⟨.ref f, hs, rfl, rfl⟩) fun u s1 ⟨v, H1, I1, r1, q1⟩ => ?_)
  obtain ⟨rfl, rfl⟩ := q1
  obtain rfl : u = Value.ref f := r1
  refine PySem.W.callWith_F (first := []) (fnAt_lam I1 hf) (thn (ha.run pos pins s1 σ _ _ I1 ht) fun us s2 ⟨vs, H2, I2, r, q⟩ => ⟨fnAt_lam I2 (Rn.fn _ _ _ _ q), ?_⟩) he hpl
  exact run_clo Rn hr I2 r q
/-- o.f(..), f a field that holds a closure -/
def tCloF (K : PySem.W.Frag) (R : Addr → List V → Hp → VK → Prop) (f : Str) (ta : TE) (t : TA) : TE := fun σ H Q => ta σ H fun x H1 => ∃ a C dx fs g, x = .ref a ∧ H1 a = some (.ins C dx fs) ∧ Cls K C ∧ NoAttr K C f ∧ fs.lookup f = some (.ref g) ∧ (∃ L, H1 g = some (LamO g L)) ∧
  t σ H1 fun vs H2 => R g vs H2 Q
theorem pe_cloF {pl : Sem Bool} {m : Str} {o e : Expr} {es : List Expr} {ta : TE} {t : TA} {apos pos : Pos} (Rn : Runs X.prog X.w X.K X.mg X.base k R) (hr : Room k X.A) (he : PE X o ta) (ha : PA X (e :: es) t)
    (hst : starEach (e :: es) X.env = (false, eval e X.env) :: starEach es X.env := by rfl) (hpl : (backTo pos (starEach es X.env)).any (·.1) = false := by rfl)
    (ht : eval (.Call (.Attribute o m apos) (e :: es) [] pos) X.env = (do
      let ov ← eval o X.env
      standAt apos.atName
      let (f, first) ← holding [ov] (getMethod ov m pl)
      callWith pos f first (backTo pos (starEach (e :: es) X.env)) (backToKw pos (keywordEach [] X.env))) := by rfl) :
    PE X (.Call (.Attribute o m apos) (e :: es) [] pos) (tCloF X.K R m ta t) := by
  refine ⟨fun pins s σ H Q I h => ?_⟩
  refine PySem.W.methodCall_KW (pl := pl) (thn (he.run pins s σ H _ I h) fun u s1 ⟨x, H1, I1, rx, a, C, dx, fs, g, ex, ea, c, n, l, hf, q⟩ => ?_) ht
  subst ex
  obtain rfl : u = Value.ref a := rx
  obtain ⟨mA, O, rl, _, _, _⟩ := ins_get I1.hok ea
  obtain ⟨od, J, hlk⟩ := O.look
  refine PySem.W.method_usual I1.kIn J (PySem.W.plainGet_of c.pg).1 (PySem.W.plainGet_of c.pg).2 n rfl (getattr_ok I1 ea c n l fun u s2 I2 ru => ?_)
  obtain rfl : u = Value.ref g := ru
  refine PySem.W.callWith_F (first := []) (fnAt_lam I2 hf) (thn (ha.run pos pins s2 σ _ _ I2 q) fun us s3 ⟨vs, H3, I3, r, q3⟩ => ⟨fnAt_lam I3 (Rn.fn _ _ _ _ q3), ?_⟩) hst hpl
  exact run_clo Rn hr I3 r q3
end
end Z
/-! Zo: rules for operands of any kind; what evaluates to data. -/
namespace Z
open PySem PySem.Spec PyProof.Rows L2 Evl

/-! ### rules for operands of any kind -/
section
variable {X : Cx}
def rAddA (K : PySem.W.Frag) : R2 := fun x y H Q => (rI0 fun i j => .int (i + j)) x y H Q ∨ rCatA K x y H Q ∨ rCat x y H Q
theorem oAdd : OpR X (binaryOp .Add) (rAddA X.K) := op_add.or (op_catA.or op_cat)
def rSubI : R2 := rI0 fun i j => .int (i - j)
theorem oSub : OpR X (binaryOp .Sub) rSubI := op_sub
def rMulA (K : PySem.W.Frag) : R2 := fun x y H Q => (rI CMul fun i j => .int (i * j)) x y H Q ∨ rRep1 K x y H Q
theorem oMul : OpR X (binaryOp .Mult) (rMulA X.K) := op_mul.or op_rep1
def rModI : R2 := rI (fun _ j => 0 < j) fun i j => .int (i % j)
theorem oMod : OpR X (binaryOp .Mod) rModI := op_mod
def rDivI : R2 := rI CDiv fun i j => .int (i / j)
theorem oDiv : OpR X (binaryOp .FloorDiv) rDivI := op_fdiv
def rPowI : R2 := rI CPow fun i j => .int (i ^ j.toNat)
theorem oPow : OpR X (binaryOp .Pow) rPowI := op_pow
def rNeg : V → Hp → VK → Prop := rU fun i => .int (-i)
theorem oNeg : UnR X (unaryOp .USub) rNeg := un_neg
def rEqA (K : PySem.W.Frag) : R2 := fun x y H Q => rEq x y H Q ∨ rEqD K x y H Q
theorem oEq (hu : X.A.units + 64 < cLine) : OpR X (compareOp .Eq) (rEqA X.K) := op_eq.or (op_eqD hu)
def rNeA (K : PySem.W.Frag) : R2 := fun x y H Q => rNe x y H Q ∨ rNeD K x y H Q
theorem oNe (hu : X.A.units + 64 < cLine) : OpR X (compareOp .NotEq) (rNeA X.K) := op_ne.or (op_neD hu)
def rLtI : R2 := rI0 fun i j => .bl (decide (i < j))
def rLeI : R2 := rI0 fun i j => .bl (decide (i ≤ j))
def rGtI : R2 := rI0 fun i j => .bl (decide (j < i))
def rGeI : R2 := rI0 fun i j => .bl (decide (j ≤ i))
theorem oLt : OpR X (compareOp .Lt) rLtI := op_lt
theorem oLe : OpR X (compareOp .LtE) rLeI := op_le
theorem oGt : OpR X (compareOp .Gt) rGtI := op_gt
theorem oGe : OpR X (compareOp .GtE) rGeI := op_ge
def rIsNo : R2 := fun x y H Q => y = .non ∧ Q (.bl (decide (x = .non))) H
def rNotNo : R2 := fun x y H Q => y = .non ∧ Q (.bl (!decide (x = .non))) H
theorem oIs : OpR X (compareOp .Is) rIsNo := op_isN
theorem oIsNot : OpR X (compareOp .IsNot) rNotNo := op_notN
theorem oIn : OpR X (compareOp .In) (rIn X.K false) := op_in_seq
def rSlAny (K : PySem.W.Frag) : V → Option Int → Option Int → Hp → VK → Prop := fun x lo hi H Q => rSlL K x lo hi H Q ∨ rSlA K x lo hi H Q
theorem oSl : SlR X (rSlAny X.K) := sl_list.or sl_tupA
def rLenQ (K : PySem.W.Frag) : List V → Hp → VK → Prop := fun xs H Q => (∃ p ys, xs = [.ref p] ∧ (SqL K H p ys ∨ SqT K H p ys) ∧ Q (.int ys.length) H) ∨ (∃ a kvs, xs = [V.ref a] ∧ H a = some (.dK kvs) ∧ Q (.int kvs.length) H)
theorem cLen : CallR X (.builtin "len") (rLenQ X.K) := call_len_seq.or call_lenD
def rTupQ (K : PySem.W.Frag) : List V → Hp → VK → Prop := fun xs H Q => (∃ p ys, xs = [.ref p] ∧ ((SqL K H p ys ∧ ∀ l, H l = none → Q (.ref l) (upd H l (.tup ys))) ∨ (SqT K H p ys ∧ Q (.ref p) H))) ∨
    (∃ p ys, xs = [.ref p] ∧ SqL K H p ys ∧ ∀ l o, H l = none → o.dict = none → Q (.ref l) (upd H l (.frz o (.tup ys))))
theorem cTup : CallR X (.type "tuple") (rTupQ X.K) := call_tuple_any
def rLstQ (K : PySem.W.Frag) : List V → Hp → VK → Prop := fun xs H Q => (∃ p ys, xs = [.ref p] ∧ (SqL K H p ys ∨ SqT K H p ys) ∧ ∀ l, H l = none → Q (.ref l) (upd H l (.lst ys))) ∨
    (∃ p kvs, xs = [.ref p] ∧ H p = some (.dK kvs) ∧ ∀ q, H q = none → Q (.ref q) (upd H q (.lst (kvs.map fun kv => kV kv.1))))
theorem cLst (hc : X.calm = true) : CallR X (.type "list") (rLstQ X.K) := call_list_of.or (call_list_dK hc)
def rAbs : List V → Hp → VK → Prop := fun xs H Q => ∃ i, xs = [.int i] ∧ Q (.int (if i < 0 then -i else i)) H
theorem cAbs : CallR X (.builtin "abs") rAbs := call_abs
def rInt1 : List V → Hp → VK → Prop := fun xs H Q => (∃ i, xs = [.int i] ∧ Q (.int i) H) ∨ ∃ k, xs = [.bl k] ∧ Q (.int (if k then 1 else 0)) H
theorem cInt : CallR X (.type "int") rInt1 := call_int1
def rMax2 : List V → Hp → VK → Prop := fun xs H Q => ∃ i j, xs = [.int i, .int j] ∧ Q (.int (if j > i then j else i)) H
theorem cMax2 (hc : X.calm = true) : CallR X (.builtin "max") rMax2 := call_max2 hc
def rIsiA (K : PySem.W.Frag) : List V → Hp → VK → Prop := fun xs H Q => rIsi K xs H Q ∨ rIsiT K xs H Q
theorem cIsi : CallR X (.builtin "isinstance") (rIsiA X.K) := call_isi.or call_isiT
end

/-! ### a list or a tuple, walked -/
def Sq0 (f : Bool) (H : Hp) (a : Addr) (xs : List V) : Prop := match f with
  | true => Rd H a (.tup xs)
  | false => H a = some (.lst xs)
theorem Sq0.sq {f : Bool} {K : PySem.W.Frag} {H : Hp} {a : Addr} {xs : List V} (h : Sq0 f H a xs) : Sq f K H a xs := by
  cases f with
  | true => exact .inl h
  | false => exact .inl (.inl h)
theorem Sq0.ex {f : Bool} {H H' : Hp} {a : Addr} {xs : List V} (h : Sq0 f H a xs) (e : Ex H H') : Sq0 f H' a xs := by
  cases f with
  | true => exact ex_rd e h
  | false => exact e a _ h
theorem Sq0.any {f : Bool} {K : PySem.W.Frag} {H : Hp} {a : Addr} {xs : List V} (h : Sq0 f H a xs) : SqL K H a xs ∨ SqT K H a xs := by
  cases f with
  | true => exact .inr (.inl h)
  | false => exact .inl (.inl (.inl h))
def Isf (f : Bool) (K : PySem.W.Frag) (a : Addr) : It := match f with
  | true => Itt K a
  | false => Itl K a
def iSq (K : PySem.W.Frag) (tl : TE) : TI := fun σ H R => tl σ H fun x H1 => ∃ f a, x = .ref a ∧ (∃ xs, Sq f K H1 a xs) ∧ R (Isf f K a) H1
theorem pi_sq {X : Cx} {tg l : Expr} {tl : TE} (hl : PE X l tl) : PI X tg l (iSq X.K tl) := by
  refine ⟨fun pins s σ H R I h => ?_⟩
  refine thn (hl.run pins s σ H _ I h) fun v s1 ⟨x, H1, I1, r1, f, a, ex, ⟨xs, hq⟩, q⟩ => ?_
  subst ex
  cases r1
  obtain ⟨its, rv, p, hlt, hz⟩ := sq_get I1 hq
  have fp : ∀ b ∈ [s1.heap.objs.size], FpOk X pins H1 b := fun b hb => by
    have e : b = s1.heap.objs.size := by simpa using hb
    rw [e]
    exact I1.fpOk (Nat.le_refl _) (I1.hok.fresh (Nat.le_refl _))
  cases f with
  | true =>
    refine wpAny_pyIter_tuple (show s1.heap.IsTuple a its.toArray from p) ?_
    exact ⟨s1.heap.objs.size, [s1.heap.objs.size], _, _, H1, rfl, I1.kept (t' := s1.toks) fun b o e => Heap.get?_push_of_some _ e, turn_tuple a _, ⟨_, Heap.get?_push_size _ rfl, rfl, rfl⟩, fp, q⟩
  | false =>
    refine wpAny_pyIter_list (show s1.heap.IsList a its.toArray from p) ?_
    exact ⟨s1.heap.objs.size, [s1.heap.objs.size], _, _, H1, rfl, I1.kept (t' := s1.toks) fun b o e => Heap.get?_push_of_some _ e, turn_list a _, ⟨_, Heap.get?_push_size _ rfl, rfl, rfl⟩, fp, q⟩
theorem walk_sq {f : Bool} {K : PySem.W.Frag} {a : Addr} {xs : List V} : Walk (Isf f K a) xs.length (fun H => Sq f K H a xs) (YAt xs) := by
  cases f with
  | true => exact walk_tup
  | false => exact walk_list

/-! ### what evaluates to data -/
def ED (te : TE) (σ : L2.St) (H : Hp) (d : PyData) : Prop := ∀ H1, Ex H H1 → ∀ Q : VK, (∀ v H2, Ex H1 H2 → Dt H2 d v → Q v H2) → te σ H1 Q
/-- a list or a tuple of data -/
def ES (te : TE) (σ : L2.St) (H : Hp) (ds : List PyData) : Prop := ∀ H1, Ex H H1 → ∀ Q : VK, (∀ f a vs H2, Ex H1 H2 → Sq0 f H2 a vs → DtA H2 ds vs → Q (.ref a) H2) → te σ H1 Q
/-- a new list of data -/
def ELD (te : TE) (σ : L2.St) (H : Hp) (ds : List PyData) : Prop := ∀ H1, Ex H H1 → ∀ Q : VK, (∀ p vs H2, H1 p = none → Ex H1 H2 → H2 p = some (.lst vs) → DtA H2 ds vs → Q (.ref p) H2) → te σ H1 Q
def EAD (ta : TA) (σ : L2.St) (H : Hp) (ds : List PyData) : Prop := ∀ H1, Ex H H1 → ∀ Q : List V → Hp → Prop, (∀ vs H2, Ex H1 H2 → DtA H2 ds vs → Q vs H2) → ta σ H1 Q
section
variable {K : PySem.W.Frag} {σ : L2.St} {H H' : Hp} {ta tb te tx : TE} {t u : TT} {x y z v : V} {d e d' : PyData} {ds ds' : List PyData}
theorem ED.mono (e : Ex H H') (h : ED te σ H d) : ED te σ H' d := fun H1 a Q q => h H1 (e.trans a) Q q
theorem ES.mono (e : Ex H H') (h : ES te σ H ds) : ES te σ H' ds := fun H1 a Q q => h H1 (e.trans a) Q q
theorem ELD.mono (e : Ex H H') (h : ELD te σ H ds) : ELD te σ H' ds := fun H1 a Q q => h H1 (e.trans a) Q q
theorem ELD.es (h : ELD te σ H ds) : ES te σ H ds := fun H1 a Q q => h H1 a Q fun p vs H2 _ e2 hp hd => q false p vs H2 e2 hp hd
theorem ED.es (h : ED te σ H (.tuple ds)) : ES te σ H ds := fun H1 a Q q => h H1 a Q fun v H2 e2 hd => by
  obtain ⟨b, xs, rfl, hb, hx⟩ := hd
  exact q true b xs H2 e2 hb hx
theorem es_list {a : Addr} {vs : List V} (h : Ev te σ H (.ref a)) (hl : H a = some (.lst vs)) (hd : DtA H ds vs) : ES te σ H ds := fun H1 e1 Q q =>
  h H1 e1 Q fun H2 e2 => q false a vs H2 e2 (e2 a _ (e1 a _ hl)) (hd.ex (e1.trans e2))
theorem ed_var {i : Nat} (h : σ[i]? = some (some v)) (hd : Dt H d v) : ED (tVar i) σ H d := fun H1 e _ q => ⟨v, h, q v H1 (Ex.refl H1) (hd.ex e)⟩
theorem edI {i : Int} (h : Ev te σ H (.int i)) : ED te σ H (.int i) := fun H1 e Q q => h H1 e Q fun H2 e2 => q _ H2 e2 rfl
theorem edN (h : Ev te σ H .non) : ED te σ H .none := fun H1 e Q q => h H1 e Q fun H2 e2 => q _ H2 e2 rfl
theorem edB {b : Bool} (h : Ev te σ H (.bl b)) : ED te σ H (.bool b) := fun H1 e Q q => h H1 e Q fun H2 e2 => q _ H2 e2 rfl
theorem ED.ev {i : Int} (h : ED te σ H (.int i)) : Ev te σ H (.int i) := fun H1 e Q q => h H1 e Q fun v H2 e2 hd => by
  rw [show v = V.int i from hd]
  exact q H2 e2
theorem ED.evN (h : ED te σ H .none) : Ev te σ H .non := fun H1 e Q q => h H1 e Q fun v H2 e2 hd => by
  rw [show v = V.non from hd]
  exact q H2 e2
theorem dta_atI {vs : List V} {j : Int} (h : DtA H ds vs) (hj : atI ds j = some d) : ∃ v, atI vs j = some v ∧ Dt H d v := by
  unfold atI at hj ⊢
  rw [h.len]
  cases e : ixN ds.length j with
  | none =>
    rw [e] at hj
    cases hj
  | some k =>
    rw [e] at hj
    exact h.get hj
theorem ed_ix {j : Int} (hs : ES ta σ H ds) (hb : Ev tb σ H (.int j)) (hj : atI ds j = some d) : ED (tOp (rIx K) ta tb) σ H d := fun H1 e1 Q q =>
  hs H1 e1 _ fun f a vs H2 e2 hsq hd => hb H2 (e1.trans e2) _ fun H3 e3 => by
    obtain ⟨v, hv, hdv⟩ := dta_atI (hd.ex e3) hj
    cases f with
    | true => exact .inr (.inl ⟨a, vs, j, v, rfl, rfl, .inl (ex_rd e3 hsq), hv, q v H3 (e2.trans e3) hdv⟩)
    | false => exact .inl ⟨a, vs, j, v, rfl, rfl, SqL.of (e3 a _ hsq), hv, q v H3 (e2.trans e3) hdv⟩
theorem ed_ixn {j : Nat} (hs : ES ta σ H ds) (hb : Ev tb σ H (.int (j : Int))) (hj : ds[j]? = some d) : ED (tOp (rIx K) ta tb) σ H d := ed_ix hs hb (atI_nat hj)
/-- an item of a list that holds objects -/
theorem ev_ixL {p : Addr} {xs : List V} {j : Int} (ha : Ev ta σ H (.ref p)) (hp : H p = some (.lst xs)) (hb : Ev tb σ H (.int j)) (hj : atI xs j = some v) : Ev (tOp (rIx K) ta tb) σ H v := fun H1 e1 Q q =>
  ha H1 e1 _ fun H2 e2 => hb H2 (e1.trans e2) _ fun H3 e3 => .inl ⟨p, xs, j, v, rfl, rfl, SqL.of (e3 p _ (e2 p _ (e1 p _ hp))), hj, q H3 (e2.trans e3)⟩
theorem ev_len (hs : ES ta σ H ds) : Ev (tCB (rLenQ K) (tCons ta tNil)) σ H (.int (ds.length : Nat)) := fun H1 e1 Q q =>
  hs H1 e1 _ fun f a vs H2 e2 hsq hd => .inl ⟨a, vs, rfl, hsq.any, by rw [hd.len]; exact q H2 e2⟩
theorem ev_lenL {p : Addr} {xs : List V} (ha : Ev ta σ H (.ref p)) (hp : H p = some (.lst xs)) : Ev (tCB (rLenQ K) (tCons ta tNil)) σ H (.int (xs.length : Nat)) := fun H1 e1 Q q =>
  ha H1 e1 _ fun H2 e2 => .inl ⟨p, xs, rfl, .inl (SqL.of (e2 p _ (e1 p _ hp))), q H2 e2⟩
theorem ev_lenDic {p : Addr} {kvs : List (L2.Key × V)} (ha : Ev ta σ H (.ref p)) (hp : H p = some (.dK kvs)) : Ev (tCB (rLenQ K) (tCons ta tNil)) σ H (.int (kvs.length : Nat)) := fun H1 e1 Q q =>
  ha H1 e1 _ fun H2 e2 => .inr ⟨p, kvs, rfl, e2 p _ (e1 p _ hp), q H2 e2⟩
theorem ev_add {i j : Int} (ha : Ev ta σ H (.int i)) (hb : Ev tb σ H (.int j)) : Ev (tOp (rAddA K) ta tb) σ H (.int (i + j)) := fun H1 e1 Q q =>
  ha H1 e1 _ fun H2 e2 => hb H2 (e1.trans e2) _ fun H3 e3 => .inl ⟨i, j, rfl, rfl, q H3 (e2.trans e3)⟩
theorem ev_i0 {g : Int → Int → V} {i j : Int} (ha : Ev ta σ H (.int i)) (hb : Ev tb σ H (.int j)) : Ev (tOp (rI0 g) ta tb) σ H (g i j) := ev_op ha hb rv_I0
theorem ev_sub {i j : Int} (ha : Ev ta σ H (.int i)) (hb : Ev tb σ H (.int j)) : Ev (tOp rSubI ta tb) σ H (.int (i - j)) := ev_i0 ha hb
theorem ev_lt {i j : Int} (ha : Ev ta σ H (.int i)) (hb : Ev tb σ H (.int j)) : Ev (tOp rLtI ta tb) σ H (.bl (decide (i < j))) := ev_i0 ha hb
theorem ev_le {i j : Int} (ha : Ev ta σ H (.int i)) (hb : Ev tb σ H (.int j)) : Ev (tOp rLeI ta tb) σ H (.bl (decide (i ≤ j))) := ev_i0 ha hb
theorem ev_gt {i j : Int} (ha : Ev ta σ H (.int i)) (hb : Ev tb σ H (.int j)) : Ev (tOp rGtI ta tb) σ H (.bl (decide (j < i))) := ev_i0 ha hb
theorem ev_ge {i j : Int} (ha : Ev ta σ H (.int i)) (hb : Ev tb σ H (.int j)) : Ev (tOp rGeI ta tb) σ H (.bl (decide (j ≤ i))) := ev_i0 ha hb
theorem ev_mul {i j : Int} (ha : Ev ta σ H (.int i)) (hb : Ev tb σ H (.int j)) (hc : CMul i j) : Ev (tOp (rMulA K) ta tb) σ H (.int (i * j)) := fun H1 e1 Q q =>
  ha H1 e1 _ fun H2 e2 => hb H2 (e1.trans e2) _ fun H3 e3 => .inl ⟨i, j, rfl, rfl, hc, q H3 (e2.trans e3)⟩
theorem ev_mod {i j : Int} (ha : Ev ta σ H (.int i)) (hb : Ev tb σ H (.int j)) (hc : 0 < j) : Ev (tOp rModI ta tb) σ H (.int (i % j)) := ev_op ha hb (rv_I hc)
theorem ev_div {i j : Int} (ha : Ev ta σ H (.int i)) (hb : Ev tb σ H (.int j)) (hc : CDiv i j) : Ev (tOp rDivI ta tb) σ H (.int (i / j)) := ev_op ha hb (rv_I hc)
theorem ev_neg {i : Int} (ha : Ev ta σ H (.int i)) : Ev (tUn rNeg ta) σ H (.int (-i)) := ev_un ha ru_neg
theorem ev_int {i : Int} (ha : Ev ta σ H (.int i)) : Ev (tCB rInt1 (tCons ta tNil)) σ H (.int i) := fun H1 e1 Q q => ha H1 e1 _ fun H2 e2 => .inl ⟨i, rfl, q H2 e2⟩
theorem ev_intB {b : Bool} (ha : Ev ta σ H (.bl b)) : Ev (tCB rInt1 (tCons ta tNil)) σ H (.int (if b then 1 else 0)) := fun H1 e1 Q q => ha H1 e1 _ fun H2 e2 => .inr ⟨b, rfl, q H2 e2⟩
theorem ev_abs {i : Int} (ha : Ev ta σ H (.int i)) : Ev (tCB rAbs (tCons ta tNil)) σ H (.int (if i < 0 then -i else i)) := fun H1 e1 Q q => ha H1 e1 _ fun H2 e2 => ⟨i, rfl, q H2 e2⟩
theorem ev_max2 {i j : Int} (ha : Ev ta σ H (.int i)) (hb : Ev tb σ H (.int j)) : Ev (tCB Z.rMax2 (tCons ta (tCons tb tNil))) σ H (.int (if j > i then j else i)) := fun H1 e1 Q q =>
  ha H1 e1 _ fun H2 e2 => hb H2 (e1.trans e2) _ fun H3 e3 => ⟨i, j, rfl, q H3 (e2.trans e3)⟩
/-- == of two ints, and of any two that == tells apart as they are -/
theorem ev_eqI {i j : Int} (ha : Ev ta σ H (.int i)) (hb : Ev tb σ H (.int j)) : Ev (tOp (rEqA K) ta tb) σ H (.bl (decide (i = j))) := fun H1 e1 Q q =>
  ha H1 e1 _ fun H2 e2 => hb H2 (e1.trans e2) _ fun H3 e3 => .inl ⟨rfl, by
    have e : decide (V.int i = V.int j) = decide (i = j) := by simp
    rw [e]
    exact q H3 (e2.trans e3)⟩
theorem ev_neI {i j : Int} (ha : Ev ta σ H (.int i)) (hb : Ev tb σ H (.int j)) : Ev (tOp (rNeA K) ta tb) σ H (.bl (!decide (i = j))) := fun H1 e1 Q q =>
  ha H1 e1 _ fun H2 e2 => hb H2 (e1.trans e2) _ fun H3 e3 => .inl ⟨rfl, by
    have e : decide (V.int i = V.int j) = decide (i = j) := by simp
    rw [e]
    exact q H3 (e2.trans e3)⟩
theorem ev_eqS {i j : Str} (ha : Ev ta σ H (.str i)) (hb : Ev tb σ H (.str j)) : Ev (tOp (rEqA K) ta tb) σ H (.bl (decide (i = j))) := fun H1 e1 Q q =>
  ha H1 e1 _ fun H2 e2 => hb H2 (e1.trans e2) _ fun H3 e3 => .inl ⟨rfl, by
    have e : decide (V.str i = V.str j) = decide (i = j) := by simp
    rw [e]
    exact q H3 (e2.trans e3)⟩
theorem ev_neB {i j : Bool} (ha : Ev ta σ H (.bl i)) (hb : Ev tb σ H (.bl j)) : Ev (tOp (rNeA K) ta tb) σ H (.bl (!decide (i = j))) := fun H1 e1 Q q =>
  ha H1 e1 _ fun H2 e2 => hb H2 (e1.trans e2) _ fun H3 e3 => .inl ⟨rfl, by
    have e : decide (V.bl i = V.bl j) = decide (i = j) := by simp
    rw [e]
    exact q H3 (e2.trans e3)⟩
theorem ev_eqD (ha : ED ta σ H d) (hb : ED tb σ H e) (h1 : SeqAt.shaped d = true) (h2 : SeqAt.shaped e = true) : Ev (tOp (rEqA K) ta tb) σ H (.bl (PyData.eqv d e)) := fun H1 e1 Q q =>
  ha H1 e1 _ fun v H2 e2 hd => hb H2 (e1.trans e2) _ fun v' H3 e3 hd' => .inr ⟨d, e, dt_dp _ _ (hd.ex e3), dt_dp _ _ hd', h1, h2, q H3 (e2.trans e3)⟩
theorem ev_isN (ha : Ev ta σ H x) : Ev (tOp rIsNo ta (tC .non)) σ H (.bl (decide (x = .non))) := fun H1 e1 Q q => ha H1 e1 _ fun H2 e2 => ⟨rfl, q H2 e2⟩
theorem ev_notN (ha : Ev ta σ H x) : Ev (tOp rNotNo ta (tC .non)) σ H (.bl (!decide (x = .non))) := fun H1 e1 Q q => ha H1 e1 _ fun H2 e2 => ⟨rfl, q H2 e2⟩
theorem ead_nil : EAD tNil σ H [] := fun H1 _ _ q => q [] H1 (Ex.refl H1) rfl
theorem ead_cons {tr : TA} (h : ED ta σ H d) (hr : EAD tr σ H ds) : EAD (tCons ta tr) σ H (d :: ds) := fun H1 e1 _ q =>
  h H1 e1 _ fun v H2 e2 hd => hr H2 (e1.trans e2) _ fun vs H3 e3 hds => q (v :: vs) H3 (e2.trans e3) ⟨v, vs, rfl, hd.ex e3, hds⟩
theorem ed_tup {ta : TA} (h : EAD ta σ H ds) (hl : ds.length ≤ 100000) : ED (tTup ta) σ H (.tuple ds) := fun H1 e1 _ q =>
  h H1 e1 _ fun vs H2 e2 hd => ⟨by rw [hd.len, sizeLine_eq]; omega, fun p hp => q _ _ (e2.trans (Ex.new hp)) (dt_tup upd_same (hd.ex (Ex.new hp)))⟩
theorem eld_lst {ta : TA} (h : EAD ta σ H ds) (hl : ds.length ≤ 100000) : ELD (tLst ta) σ H ds := fun H1 e1 _ q =>
  h H1 e1 _ fun vs H2 e2 hd => ⟨by rw [hd.len, sizeLine_eq]; omega, fun p hp => q _ vs _ (fresh_back e2 hp) (e2.trans (Ex.new hp)) upd_same (hd.ex (Ex.new hp))⟩
theorem ed_tupleOf (hs : ES ta σ H ds) : ED (tCB (rTupQ K) (tCons ta tNil)) σ H (.tuple ds) := fun H1 e1 Q q =>
  hs H1 e1 _ fun f a vs H2 e2 hsq hd => .inl ⟨a, vs, rfl, by
    cases f with
    | true => exact .inr ⟨.inl hsq, q _ H2 e2 ⟨a, vs, rfl, hsq, hd⟩⟩
    | false => exact .inl ⟨SqL.of hsq, fun l hl => q _ _ (e2.trans (Ex.new hl)) (dt_tup upd_same (hd.ex (Ex.new hl)))⟩⟩
theorem eld_listOf (hs : ES ta σ H ds) : ELD (tCB (rLstQ K) (tCons ta tNil)) σ H ds := fun H1 e1 Q q =>
  hs H1 e1 _ fun f a vs H2 e2 hsq hd => .inl ⟨a, vs, rfl, hsq.any, fun l hl => q l vs _ (fresh_back e2 hl) (e2.trans (Ex.new hl)) upd_same (hd.ex (Ex.new hl))⟩
theorem ed_if {b : Bool} (h : EvT t σ H b) (h1 : b = true → ED ta σ H d) (h2 : b = false → ED tb σ H d) : ED (tIf t ta tb) σ H d := fun H1 e1 Q q => h H1 e1 _ fun H2 e2 => by
  cases b with
  | true => exact h1 rfl H2 (e1.trans e2) Q fun v H3 e3 hd => q v H3 (e2.trans e3) hd
  | false => exact h2 rfl H2 (e1.trans e2) Q fun v H3 e3 hd => q v H3 (e2.trans e3) hd
theorem ED.is (h : ED te σ H d) (e : d = d') : ED te σ H d' := e ▸ h
theorem ES.is (h : ES te σ H ds) (e : ds = ds') : ES te σ H ds' := e ▸ h
theorem ELD.is (h : ELD te σ H ds) (e : ds = ds') : ELD te σ H ds' := e ▸ h
/-- x in xs, of ints -/
theorem inV_ints (i : Int) : ∀ ns : List Int, inV (.int i) (ns.map V.int) = decide (i ∈ ns)
  | [] => rfl
  | n :: ns => by
    have ih := inV_ints i ns
    unfold inV at ih ⊢
    rw [List.map_cons, List.any_cons, ih]
    have e : eqV (.int n) (.int i) = (n == i) := rfl
    rw [e]
    by_cases h : n = i
    · subst h
      simp
    · have h2 : ¬ i = n := fun q => h q.symm
      simp [h, h2]
theorem flat_ints : ∀ ns : List Int, (ns.map V.int).all flatV = true
  | [] => rfl
  | n :: ns => by
    rw [List.map_cons, List.all_cons, flat_ints ns] <;> rfl
theorem ev_inI {i : Int} {ns : List Int} (ha : Ev ta σ H (.int i)) (hs : ES tb σ H (ns.map PyData.int)) : Ev (tOp (rIn K false) ta tb) σ H (.bl (decide (i ∈ ns))) := fun H1 e1 Q q =>
  ha H1 e1 _ fun H2 e2 => hs H2 (e1.trans e2) _ fun f a vs H3 e3 hsq hd => by
    have ev := hd.ints
    subst ev
    refine ⟨a, ns.map V.int, rfl, hsq.any, rfl, flat_ints ns, ?_⟩
    show Q (.bl (inV (.int i) (ns.map V.int))) H3
    rw [inV_ints]
    exact q H3 (e2.trans e3)
/-! ### comprehensions of data -/
def Mono (g : TG) : Prop := ∀ x σ H (k k' : L2.St → Hp → Prop), (∀ σ2 H2, k σ2 H2 → k' σ2 H2) → g x σ H k → g x σ H k'
theorem mono_name {j : Nat} : Mono (gName j) := fun _ _ _ _ _ h q => h _ _ q
def MonoS (g : TGs) : Prop := ∀ xs σ H (k k' : L2.St → Hp → Prop), (∀ σ2 H2, k σ2 H2 → k' σ2 H2) → g xs σ H k → g xs σ H k'
theorem monoS_nil : MonoS gNil := fun _ _ _ _ _ h ⟨e, q⟩ => ⟨e, h _ _ q⟩
theorem monoS_cons {g : TG} {gs : TGs} (a : Mono g) (b : MonoS gs) : MonoS (gCons g gs) := fun _ _ _ _ _ h ⟨v, r, e, q⟩ => ⟨v, r, e, a _ _ _ _ _ (fun _ _ z => b _ _ _ _ _ h z) q⟩
theorem mono_tup {n : Nat} {gs : TGs} (b : MonoS gs) : Mono (gTup K n gs) := fun _ _ _ _ _ h ⟨a, xs, e, hs, hl, q⟩ => ⟨a, xs, e, hs, hl, b _ _ _ _ _ h q⟩
def CwD (H : Hp) (ds : List PyData) (D : Addr) (H' : Hp) : Prop := H D = none ∧ Ex H H' ∧ ∃ vs, H' D = some (.lst vs) ∧ DtA H' ds vs
/-- any walked thing: what a turn gives -/
theorem eld_walk {wi : TI} {g : TG} {tt : TT} {vs : List Nat} {n : Nat} (b : Nat → Bool) (out : Nat → PyData) (hm : Mono g) (hn : n ≤ 50000)
    (src : ∀ H1, Ex H H1 → ∀ R : It → Hp → Prop, (∀ J H2 G Y, Ex H1 H2 → Walk J n G Y → (∀ H3, Ex H2 H3 → G H3) → (∀ i x H3 H4, i < n → Ex H2 H3 → Y i H3 x H4 → Ex H3 H4 ∧
      g x (wipe σ vs) H4 fun σ2 H5 => Ex H4 H5 ∧ wipe σ2 vs = wipe σ vs ∧ EvT tt σ2 H5 (b i) ∧ (b i = true → ED te σ2 H5 (out i))) → R J H2) → wi σ H1 R) :
    ELD (tLc wi g tt te vs) σ H (((List.range n).filter b).map out) := by
  intro H1 e1 Q q
  refine src H1 e1 _ fun J H2 G Y e2 W hG ht D hD => ?_
  refine lc_it W (fun i H' => CwD H2 (((List.range i).filter b).map out) D H') ⟨hD, Ex.new hD, [], upd_same, rfl⟩ (fun i H' _ p => hG H' p.2.1) (fun i x H3 H4 hi ⟨p1, p2, xs, p3, p4⟩ hy => ?_) fun H' ⟨p1, p2, xs, p3, p4⟩ => ?_
  · obtain ⟨e3, ht⟩ := ht i x H3 H4 hi p2 hy
    refine hm _ _ _ _ _ (fun σ2 H5 ⟨e4, hw, hb, ho⟩ => ⟨hw, ?_⟩) ht
    refine hb H5 (Ex.refl _) _ fun H6 e5 => ?_
    have e36 : Ex H3 H6 := (e3.trans e4).trans e5
    cases hbi : b i with
    | true =>
      refine ho hbi H6 e5 _ fun v H7 e6 hd => ⟨xs, e6 _ _ (e36 _ _ p3), ?_, p1, ?_, xs ++ [v], upd_same, ?_⟩
      · have := p4.len
        have l1 := List.length_filter_le b (List.range i)
        rw [List.length_range] at l1
        rw [List.length_map] at this
        rw [sizeLine_eq]
        omega
      · exact Ex.mut ((p2.trans e36).trans e6) p1
      · have tk : Tk H7 (upd H7 D (.lst (xs ++ [v]))) := Tk.mut (e6 _ _ (e36 _ _ p3))
        rw [List.range_succ, List.filter_append, List.map_append]
        have e1 : List.filter b [i] = [i] := by rw [List.filter_cons, if_pos hbi] <;> rfl
        rw [e1]
        exact ((p4.ex (e36.trans e6)).tk tk).snoc (hd.tk tk)
    | false =>
      refine ⟨p1, p2.trans e36, xs, e36 _ _ p3, ?_⟩
      rw [List.range_succ, List.filter_append, List.map_append]
      have e1 : List.filter b [i] = [] := by rw [List.filter_cons, if_neg (by rw [hbi]; decide)] <;> rfl
      rw [e1, List.map_nil, List.append_nil]
      exact p4.ex e36
  · exact q D xs H' (fresh_back e2 p1) (e2.trans p2) p3 p4
theorem range_fm {α : Type} (l : List α) (b : α → Bool) (out : α → PyData) (x0 : α) : ((List.range l.length).filter fun i => b (l.getD i x0)).map (fun i => out (l.getD i x0)) = (l.filter b).map out := by
  have e : (List.range l.length).map (fun i => l.getD i x0) = l := by
    apply List.ext_getElem
    · rw [List.length_map, List.length_range]
    · intro i h1 h2
      rw [List.getElem_map, List.getElem_range, List.getD_eq_getElem?_getD, List.getElem?_eq_getElem h2] <;> rfl
  calc ((List.range l.length).filter fun i => b (l.getD i x0)).map (fun i => out (l.getD i x0))
      = (((List.range l.length).map (fun i => l.getD i x0)).filter b).map out := by
        rw [List.filter_map, List.map_map] <;> rfl
    _ = _ := by rw [e]
/-- over a list or tuple of data -/
theorem eld_over {α : Type} {tl : TE} {g : TG} {tt : TT} {vs : List Nat} (l : List α) (enc : α → PyData) (b : α → Bool) (out : α → PyData) (hs : ES tl σ H (l.map enc)) (hm : Mono g) (hn : l.length ≤ 50000)
    (turn : ∀ x v H', x ∈ l → Ex H H' → Dt H' (enc x) v → g v (wipe σ vs) H' fun σ2 H5 => Ex H' H5 ∧ wipe σ2 vs = wipe σ vs ∧ EvT tt σ2 H5 (b x) ∧ (b x = true → ED te σ2 H5 (out x))) :
    ELD (tLc (iSq K tl) g tt te vs) σ H ((l.filter b).map out) := by
  cases l with
  | nil =>
    refine ELD.is (eld_walk (n := 0) (fun _ => false) (fun _ => .none) hm (Nat.zero_le _) fun H1 e1 R hR => ?_) rfl
    refine hs H1 e1 _ fun f a xs H2 e2 hsq hd => ⟨f, a, rfl, ⟨xs, hsq.sq⟩, ?_⟩
    have hx : xs = [] := hd
    subst hx
    exact hR _ H2 _ _ e2 (walk_sq (xs := [])) (fun H3 e3 => (hsq.ex e3).sq) fun i x H3 H4 hi => absurd hi (Nat.not_lt_zero _)
  | cons x0 l0 =>
    refine ELD.is (eld_walk (n := (x0 :: l0).length) (fun i => b ((x0 :: l0).getD i x0)) (fun i => out ((x0 :: l0).getD i x0)) hm hn fun H1 e1 R hR => ?_) (range_fm _ b out x0)
    refine hs H1 e1 _ fun f a xs H2 e2 hsq hd => ⟨f, a, rfl, ⟨xs, hsq.sq⟩, ?_⟩
    have hlen : xs.length = (x0 :: l0).length := by rw [hd.len, List.length_map]
    refine hR _ H2 _ _ e2 (hlen ▸ walk_sq (xs := xs)) (fun H3 e3 => (hsq.ex e3).sq) fun i x H3 H4 hi e3 hy => ?_
    obtain ⟨rfl, hx⟩ := hy
    obtain ⟨d, h1, h2⟩ := hd.get' hx
    refine ⟨Ex.refl _, ?_⟩
    have hg : (x0 :: l0).getD i x0 = (x0 :: l0)[i] := by rw [List.getD_eq_getElem?_getD, List.getElem?_eq_getElem hi] <;> rfl
    rw [hg]
    have hd2 : d = enc (x0 :: l0)[i] := by
      rw [List.getElem?_map, List.getElem?_eq_getElem hi] at h1
      exact (Option.some.inj h1).symm
    refine turn _ x H4 (List.getElem_mem hi) ((e1.trans e2).trans e3) ?_
    rw [← hd2]
    exact h2.ex e3
/-- over range(n) -/
theorem eld_rng {ta : TA} {j : Nat} {tt : TT} {vs : List Nat} {n : Nat} (b : Nat → Bool) (out : Nat → PyData) (h : EvA ta σ H [.int (n : Int)]) (hn : n ≤ 50000)
    (turn : ∀ i H', i < n → Ex H H' → wipe ((wipe σ vs).set j (some (.int (i : Int)))) vs = wipe σ vs ∧ EvT tt ((wipe σ vs).set j (some (.int (i : Int)))) H' (b i) ∧ (b i = true → ED te ((wipe σ vs).set j (some (.int (i : Int)))) H' (out i))) :
    ELD (tLc (iRng1 ta) (gName j) tt te vs) σ H (((List.range n).filter b).map out) := by
  refine eld_walk b out mono_name hn fun H1 e1 R hR => ?_
  refine h H1 e1 _ fun H2 e2 => ⟨(n : Int), rfl, by omega, by omega, ?_⟩
  have e0 : ((n : Int)).toNat = n := Int.toNat_natCast n
  rw [e0]
  refine hR _ H2 _ _ e2 walk_range (fun _ _ => trivial) fun i x H3 H4 hi e3 hy => ?_
  obtain ⟨rfl, rfl⟩ := hy
  refine ⟨Ex.refl _, ?_⟩
  dsimp only
  rw [show ((0 : Int) + (i : Int)) = (i : Int) from Int.zero_add _]
  exact ⟨Ex.refl _, turn i H4 hi ((e1.trans e2).trans e3)⟩
end
end Z
/-! Zt: the text by places; defs, methods, classes, constants as the walk takes them. -/
namespace Z
open PySem PySem.Spec PyProof.Rows L2 Evl

def top (i : Nat) : Stmt := PySem.Challenge.pw_hourcards_k60_whole_strangers_led.main.body.getD i (.Pass ⟨0, 0, 0, 0⟩)
theorem b_len : bootBuiltins "len" = some (.builtin "len") := by decide +kernel
theorem b_range : bootBuiltins "range" = some (.type "range") := by decide +kernel
theorem b_sorted : bootBuiltins "sorted" = some (.builtin "sorted") := by decide +kernel
theorem b_tuple : bootBuiltins "tuple" = some (.type "tuple") := by decide +kernel
theorem b_list : bootBuiltins "list" = some (.type "list") := by decide +kernel
theorem b_int : bootBuiltins "int" = some (.type "int") := by decide +kernel
theorem b_bool : bootBuiltins "bool" = some (.type "bool") := by decide +kernel
theorem b_dict : bootBuiltins "dict" = some (.type "dict") := by decide +kernel
theorem b_set : bootBuiltins "set" = some (.type "set") := by decide +kernel
theorem b_max : bootBuiltins "max" = some (.builtin "max") := by decide +kernel
theorem b_sum : bootBuiltins "sum" = some (.builtin "sum") := by decide +kernel
theorem b_abs : bootBuiltins "abs" = some (.builtin "abs") := by decide +kernel
theorem b_isinstance : bootBuiltins "isinstance" = some (.builtin "isinstance") := by decide +kernel
theorem b_all : bootBuiltins "all" = some (.builtin "all") := by decide +kernel
theorem b_any : bootBuiltins "any" = some (.builtin "any") := by decide +kernel
/-- the builtins that no name of the module hides -/
structure Bl (mg : Str → Option Value) : Prop where
  len : mg "len" = none
  range : mg "range" = none
  sorted : mg "sorted" = none
  tuple : mg "tuple" = none
  list : mg "list" = none
  int : mg "int" = none
  bool : mg "bool" = none
  dict : mg "dict" = none
  set : mg "set" = none
  max : mg "max" = none
  sum : mg "sum" = none
  abs : mg "abs" = none
  isinstance : mg "isinstance" = none
  all : mg "all" = none
  any : mg "any" = none
  enumerate : mg "enumerate" = none
  zip : mg "zip" = none

/-- a def of the module, with its promise -/
structure Cal (P : Program) (w : World) (K : PySem.W.Frag) (mg : Str → Option Value) (base : Heap) (x : Str) (k : Nat) (ps : List Str) (sp : Sp) : Prop where
  ex : ∃ f fd, FnOk P w K mg base CX0 k f fd ps sp ∧ mg x = some (.ref f) ∧ PySem.W.keepIn K (.ref f) = true ∧ Binds K fd ps []
/-- a method -/
structure CalM (P : Program) (w : World) (K : PySem.W.Frag) (mg : Str → Option Value) (base : Heap) (C : Addr) (m : Str) (k : Nat) (ps : List Str) (sp : Sp) : Prop where
  cls : Cls K C
  ex : ∃ f fd, FnOk P w K mg base CX0 k f fd ps sp ∧ Meth K C m f ∧ Binds K fd ps []
/-- a class, made -/
structure CalN (P : Program) (w : World) (K : PySem.W.Frag) (mg : Str → Option Value) (base : Heap) (x : Str) (C : Addr) (k : Nat) (ps : List Str) (sp : Sp) : Prop where
  ex : ∃ f fd, FnOk P w K mg base CX0 k f fd ps sp ∧ mg x = some (.ref C) ∧ Mk K C f ∧ Binds K fd ps []
/-- a whole number of the module -/
def Num (mg : Str → Option Value) (x : Str) (n : Int) : Prop := ∃ t, mg x = some (.int n t)
section
variable {X : Cx} {k : Nat} {ps : List Str} {sp : Sp} {x m : Str} {p pos apos : Pos} {e o : Expr} {es : List Expr} {ta : TE} {t : TA} {C : Addr}
theorem pe_callC (c : Cal X.prog X.w X.K X.mg X.base x k ps sp) (hr : Room k X.A) (hg : Gl X x) (ha : PA X (e :: es) t)
    (hst : starEach (e :: es) X.env = (false, eval e X.env) :: starEach es X.env := by rfl) (hpl : (backTo pos (starEach es X.env)).any (·.1) = false := by rfl) (hdb : (x == ("__debug__" : Str)) = false := by decide) :
    PE X (.Call (.Name x p) (e :: es) [] pos) (tCall sp [] E0 t) := by
  obtain ⟨f, fd, F, hm, hk, hb⟩ := c.ex
  exact pe_call F hr hg hm hk hb .nil pass0 ha hdb hst hpl
theorem pe_makeC (c : CalN X.prog X.w X.K X.mg X.base x C k ps sp) (hr : Room (k + 1) X.A) (hg : Gl X x) (ha : PA X (e :: es) t)
    (hst : starEach (e :: es) X.env = (false, eval e X.env) :: starEach es X.env := by rfl) (hpl : (backTo pos (starEach es X.env)).any (·.1) = false := by rfl) (hdb : (x == ("__debug__" : Str)) = false := by decide) :
    PE X (.Call (.Name x p) (e :: es) [] pos) (tMake C sp [] E0 t) := by
  obtain ⟨f, fd, F, hm, M, hb⟩ := c.ex
  exact pe_make M F hr hg hm hb .nil pass0 ha hdb hst hpl
theorem pe_methC {pl : Sem Bool} (c : CalM X.prog X.w X.K X.mg X.base C m k ps sp) (hr : Room k X.A) (ho : PE X o ta) (ha : PA X (e :: es) t)
    (hst : starEach (e :: es) X.env = (false, eval e X.env) :: starEach es X.env := by rfl) (hpl : (backTo pos (starEach es X.env)).any (·.1) = false := by rfl)
    (ht : eval (.Call (.Attribute o m apos) (e :: es) [] pos) X.env = (do
      let ov ← eval o X.env
      standAt apos.atName
      let (f, first) ← holding [ov] (getMethod ov m pl)
      callWith pos f first (backTo pos (starEach (e :: es) X.env)) (backToKw pos (keywordEach [] X.env))) := by rfl) :
    PE X (.Call (.Attribute o m apos) (e :: es) [] pos) (tMeth C m sp [] E0 ta t) := by
  obtain ⟨f, fd, F, hm, hb⟩ := c.ex
  exact pe_meth ho c.cls hm F hr hb .nil pass0 ha hst hpl ht
theorem pe_methC0 {pl : Sem Bool} (c : CalM X.prog X.w X.K X.mg X.base C m k ps sp) (hr : Room k X.A) (ho : PE X o ta)
    (ht : eval (.Call (.Attribute o m apos) [] [] pos) X.env = (do
      let ov ← eval o X.env
      standAt apos.atName
      let (f, first) ← holding [ov] (getMethod ov m pl)
      callWith pos f first (backTo pos (starEach [] X.env)) (backToKw pos (keywordEach [] X.env))) := by rfl) :
    PE X (.Call (.Attribute o m apos) [] [] pos) (tMeth C m sp [] E0 ta tNil) := by
  obtain ⟨f, fd, F, hm, hb⟩ := c.ex
  exact pe_meth0 ho c.cls hm F hr hb .nil pass0 ht
theorem pe_num {n : Int} (h : Num X.mg x n) (hg : Gl X x) (hd : (x == ("__debug__" : Str)) = false := by decide) : PE X (.Name x pos) (tC (.int n)) := by
  obtain ⟨t, e⟩ := h
  exact pe_glob hg e ⟨t, rfl⟩ hd
end
end Z
/-! Zs: statements over data. -/
namespace Z
open PySem PySem.Spec PyProof.Rows L2 Evl

section
variable {K : PySem.W.Frag} {σ : L2.St} {H H' : Hp} {ta tb te tx tl : TE} {t u : TT} {x y z v : V} {d e d' : PyData} {ds ds' : List PyData} {D : Ends} {tu tw tz : TS} {g : TG}
theorem s_retD (h : ED te σ H d) (k : ∀ v H1, Ex H H1 → Dt H1 d v → D.rt v H1) : tRet te D σ H := h H (Ex.refl H) _ k
theorem s_retLD (h : ELD te σ H ds) (k : ∀ p vs H1, H p = none → Ex H H1 → H1 p = some (.lst vs) → DtA H1 ds vs → D.rt (.ref p) H1) : tRet te D σ H := h H (Ex.refl H) _ fun p vs H1 hp e h1 h2 => k p vs H1 hp e h1 h2
theorem s_asgD {i : Nat} (h : ED te σ H d) (k : ∀ v H1, Ex H H1 → Dt H1 d v → D.nx (σ.set i (some v)) H1) : tAsg te (gName i) D σ H := h H (Ex.refl H) _ k
theorem q_asgD {i : Nat} (h : ED te σ H d) (k : ∀ v H1, Ex H H1 → Dt H1 d v → tz D (σ.set i (some v)) H1) : tSeq (tAsg te (gName i)) tz D σ H := s_asgD (D := { D with nx := tz D }) h k
theorem s_asgLD {i : Nat} (h : ELD te σ H ds) (k : ∀ p vs H1, H p = none → Ex H H1 → H1 p = some (.lst vs) → DtA H1 ds vs → D.nx (σ.set i (some (.ref p))) H1) : tAsg te (gName i) D σ H := h H (Ex.refl H) _ fun p vs H1 hp e h1 h2 => k p vs H1 hp e h1 h2
theorem q_asgLD {i : Nat} (h : ELD te σ H ds) (k : ∀ p vs H1, H p = none → Ex H H1 → H1 p = some (.lst vs) → DtA H1 ds vs → tz D (σ.set i (some (.ref p))) H1) : tSeq (tAsg te (gName i)) tz D σ H := s_asgLD (D := { D with nx := tz D }) h k
/-- a for over a list or a tuple of data, that stands while the body runs -/
theorem s_forS (hs : ES tl σ H ds) (Pv : Bool → Addr → List V → Nat → L2.St → Hp → Prop) (h0 : ∀ f a vs H1, Ex H H1 → Sq0 f H1 a vs → DtA H1 ds vs → Pv f a vs 0 σ H1)
    (hl : ∀ f a vs i σ' H', i ≤ ds.length → Pv f a vs i σ' H' → Sq0 f H' a vs ∧ DtA H' ds vs)
    (turn : ∀ f a vs i d v σ' H', ds[i]? = some d → Dt H' d v → Pv f a vs i σ' H' → g v σ' H' fun σ2 H2 => tu { D with nx := Pv f a vs (i + 1), ct := Pv f a vs (i + 1), bk := D.nx } σ2 H2)
    (hd : ∀ f a vs σ' H', Pv f a vs ds.length σ' H' → D.nx σ' H') : tFor (iSq K tl) g tu D σ H :=
  hs H (Ex.refl H) _ fun f a vs H1 e1 hsq hdv => by
    have hlen := hdv.len
    refine ⟨f, a, rfl, ⟨vs, hsq.sq⟩, for_it walk_sq (Pv f a vs) (h0 f a vs H1 e1 hsq hdv) (fun i σ' H' hi p => (hl f a vs i σ' H' (by omega) p).1.sq) (fun i x σ' H2 H3 hi p hy => ?_) fun σ' H' p => hd f a vs σ' H' (by rw [← hlen]; exact p)⟩
    obtain ⟨rfl, hx⟩ := hy
    obtain ⟨_, q⟩ := hl f a vs i σ' H3 (by omega) p
    obtain ⟨d, h1, h2⟩ := q.get' hx
    exact turn f a vs i d x σ' H3 h1 h2 p
theorem q_forS (hs : ES tl σ H ds) (Pv : Bool → Addr → List V → Nat → L2.St → Hp → Prop) (h0 : ∀ f a vs H1, Ex H H1 → Sq0 f H1 a vs → DtA H1 ds vs → Pv f a vs 0 σ H1)
    (hl : ∀ f a vs i σ' H', i ≤ ds.length → Pv f a vs i σ' H' → Sq0 f H' a vs ∧ DtA H' ds vs)
    (turn : ∀ f a vs i d v σ' H', ds[i]? = some d → Dt H' d v → Pv f a vs i σ' H' → g v σ' H' fun σ2 H2 => tu { D with nx := Pv f a vs (i + 1), ct := Pv f a vs (i + 1), bk := tz D } σ2 H2)
    (hd : ∀ f a vs σ' H', Pv f a vs ds.length σ' H' → tz D σ' H') : tSeq (tFor (iSq K tl) g tu) tz D σ H := s_forS (D := { D with nx := tz D }) hs Pv h0 hl turn hd
/-- .. over a tuple of data, which always stands -/
theorem s_forT' (hs : ED tl σ H (.tuple ds)) (Pv : Nat → L2.St → Hp → Prop) (h0 : ∀ H1, Ex H H1 → Pv 0 σ H1) (hk : ∀ i σ' H', Pv i σ' H' → Tk H H')
    (turn : ∀ i d v σ' H', ds[i]? = some d → Dt H' d v → Pv i σ' H' → g v σ' H' fun σ2 H2 => tu { D with nx := Pv (i + 1), ct := Pv (i + 1), bk := D.nx } σ2 H2)
    (hd : ∀ σ' H', Pv ds.length σ' H' → D.nx σ' H') (hv : ∃ v, Dt H (.tuple ds) v ∧ ∀ H1, Ex H H1 → ∀ Q : VK, (∀ H2, Ex H1 H2 → Q v H2) → tl σ H1 Q) : tFor (iSq K tl) g tu D σ H := by
  obtain ⟨v, ⟨a, xs, rfl, ha, hx⟩, hv⟩ := hv
  refine hv H (Ex.refl H) _ fun H1 e1 => ?_
  have hlen := hx.len
  refine ⟨true, a, rfl, ⟨xs, .inl (ex_rd e1 ha)⟩, for_it (walk_sq (f := true) (xs := xs)) Pv (h0 H1 e1) (fun i σ' H' hi p => .inl (hk i σ' H' p a xs ha)) (fun i x σ' H2 H3 hi p hy => ?_) fun σ' H' p => hd σ' H' (by rw [← hlen]; exact p)⟩
  obtain ⟨rfl, hx'⟩ := hy
  obtain ⟨d, h1, h2⟩ := hx.get' hx'
  exact turn i d x σ' H3 h1 (h2.tk (hk i σ' H3 p)) p
/-- for i, a in enumerate(t) -/
theorem s_forEn {i j : Nat} (hs : ED te σ H (.tuple ds)) (Pv : Nat → L2.St → Hp → Prop) (hk : ∀ H1 n σ' H', Ex H H1 → Pv n σ' H' → Tk H1 H') (h0 : ∀ H1, Ex H H1 → Pv 0 σ H1)
    (turn : ∀ n d v σ' H' H2, ds[n]? = some d → Dt H2 d v → Pv n σ' H' → Ex H' H2 → tu { D with nx := Pv (n + 1), ct := Pv (n + 1), bk := D.nx } ((σ'.set i (some (.int (n : Int)))).set j (some v)) H2)
    (hd : ∀ σ' H', Pv ds.length σ' H' → D.nx σ' H') : tFor (iEf true K (tCons te tNil)) (gTup K 2 (gCons (gName i) (gCons (gName j) gNil))) tu D σ H :=
  hs H (Ex.refl H) _ fun v H1 e1 hv => by
    obtain ⟨a, xs, rfl, ha, hx⟩ := hv
    have hlen := hx.len
    refine ⟨a, xs, rfl, .inl ha, for_it (walk_ef (f := true) (xs := xs)) Pv (h0 H1 e1) (fun n σ' H' hi p => .inl (hk H1 n σ' H' e1 p a xs ha)) (fun n x σ' H2 H3 hi p hy => ?_) fun σ' H' p => hd σ' H' (by rw [← hlen]; exact p)⟩
    obtain ⟨T, x1, x2, rfl, hT, rfl, q1, q2⟩ := hy
    cases q1
    refine ⟨T, [.int (n : Int), x2], rfl, SqT.of upd_same, rfl, _, _, rfl, _, _, rfl, rfl, ?_⟩
    obtain ⟨d, h1, h2⟩ := hx.get' q2
    exact turn n d x2 σ' H2 _ h1 ((h2.tk (hk H1 n σ' H2 e1 p)).ex (Ex.new hT)) p (Ex.new hT)
/-- for a, b in zip(t, u), two tuples of one length -/
theorem s_forZt {i j : Nat} (hs : ED ta σ H (.tuple ds)) (hs2 : ED tb σ H (.tuple ds')) (hl : ds.length = ds'.length) (Pv : Nat → L2.St → Hp → Prop) (hk : ∀ H1 n σ' H', Ex H H1 → Pv n σ' H' → Tk H1 H') (h0 : ∀ H1, Ex H H1 → Pv 0 σ H1)
    (turn : ∀ n d d2 v v2 σ' H' H2, ds[n]? = some d → ds'[n]? = some d2 → Dt H2 d v → Dt H2 d2 v2 → Pv n σ' H' → Ex H' H2 → tu { D with nx := Pv (n + 1), ct := Pv (n + 1), bk := D.nx } ((σ'.set i (some v)).set j (some v2)) H2)
    (hd : ∀ σ' H', Pv ds.length σ' H' → D.nx σ' H') : tFor (iZf true true K (tCons ta (tCons tb tNil))) (gTup K 2 (gCons (gName i) (gCons (gName j) gNil))) tu D σ H :=
  hs H (Ex.refl H) _ fun v H1 e1 hv => hs2 H1 e1 _ fun v' H2 e2 hv' => by
    obtain ⟨a, xs, rfl, ha, hx⟩ := hv
    obtain ⟨b, ys, rfl, hb, hy⟩ := hv'
    have l1 := hx.len
    have l2 := hy.len
    refine ⟨a, b, xs, ys, rfl, .inl (ex_rd e2 ha), .inl hb, for_it (walk_zf (f := true) (g := true) (xs := xs) (ys := ys)) Pv (h0 H2 (e1.trans e2)) (fun n σ' H' hi p => ?_) (fun n x σ' H3 H4 hi p hyy => ?_) fun σ' H' p => hd σ' H' (by rw [show ds.length = min xs.length ys.length by omega]; exact p)⟩
    · have tk := hk H2 n σ' H' (e1.trans e2) p
      exact ⟨.inl (tk a xs (ex_rd e2 ha)), .inl (tk b ys hb)⟩
    · obtain ⟨T, x1, x2, rfl, hT, rfl, q1, q2⟩ := hyy
      have tk := hk H2 n σ' H3 (e1.trans e2) p
      refine ⟨T, [x1, x2], rfl, SqT.of upd_same, rfl, _, _, rfl, _, _, rfl, rfl, ?_⟩
      obtain ⟨d, h1, h2⟩ := hx.get' q1
      obtain ⟨d2, h3, h4⟩ := hy.get' q2
      exact turn n d d2 x1 x2 σ' H3 _ h1 h3 (((h2.ex e2).tk tk).ex (Ex.new hT)) ((h4.tk tk).ex (Ex.new hT)) p (Ex.new hT)
/-- target = a tuple of data, by its items -/
theorem s_asgTup {n : Nat} {gs : TGs} (h : ED te σ H (.tuple ds)) (hn : ds.length = n) (k : ∀ vs H1, Ex H H1 → DtA H1 ds vs → gs vs σ H1 D.nx) : tAsg te (gTup K n gs) D σ H :=
  h H (Ex.refl H) _ fun v H1 e1 hv => by
    obtain ⟨a, xs, rfl, ha, hx⟩ := hv
    exact ⟨a, xs, rfl, .inl ha, by rw [hx.len, hn], k xs H1 e1 hx⟩
theorem q_asgTup {n : Nat} {gs : TGs} (h : ED te σ H (.tuple ds)) (hn : ds.length = n) (k : ∀ vs H1, Ex H H1 → DtA H1 ds vs → gs vs σ H1 (tz D)) : tSeq (tAsg te (gTup K n gs)) tz D σ H := s_asgTup (D := { D with nx := tz D }) h hn k
end
/-! ### the words of the law -/
abbrev iN (n : Nat) : PyData := .int (n : Int)
def dInts (ns : List Int) : PyData := .tuple (ns.map PyData.int)
def dWay (w : List Nat) : PyData := .tuple (w.map iN)
structure Web where
  houses : Int
  roads : List (Int × Int)
  rooms : List Int
  times : List Int
def dRoads (W : Web) : PyData := .tuple (W.roads.map fun p => .tuple [.int p.1, .int p.2])
def dWeb (W : Web) : List PyData := [.int W.houses, dRoads W, dInts W.rooms, dInts W.times]
structure WebOk (W : Web) : Prop where
  h2 : 2 ≤ W.houses
  h12 : W.houses ≤ 12
  r1 : 1 ≤ W.roads.length
  r7 : W.roads.length ≤ 7
  ends : ∀ p ∈ W.roads, 0 ≤ p.1 ∧ p.1 < W.houses ∧ 0 ≤ p.2 ∧ p.2 < W.houses ∧ p.1 ≠ p.2
  lm : W.rooms.length = W.roads.length
  lt : W.times.length = W.roads.length
  rooms : ∀ n ∈ W.rooms, 1 ≤ n ∧ n ≤ 3
  times : ∀ n ∈ W.times, 1 ≤ n ∧ n ≤ 3
def WebAt (H : Hp) (a : Addr) (W : Web) : Prop := ∃ vs, H a = some (.lst vs) ∧ DtA H (dWeb W) vs
theorem WebAt.ex {H H' : Hp} {a : Addr} {W : Web} (h : WebAt H a W) (e : Ex H H') : WebAt H' a W := by
  obtain ⟨vs, h1, h2⟩ := h
  exact ⟨vs, e _ _ h1, h2.ex e⟩
theorem WebAt.es {te : TE} {σ : L2.St} {H : Hp} {a : Addr} {W : Web} (h : WebAt H a W) (hv : Ev te σ H (.ref a)) : ES te σ H (dWeb W) := by
  obtain ⟨vs, h1, h2⟩ := h
  exact es_list hv h1 h2
abbrev Let := List Nat × Int
def dLet (l : Let) : PyData := .tuple [dWay l.1, .int l.2]
def dLets (ls : List Let) : PyData := .tuple (ls.map dLet)
structure Card where
  way : List Nat
  come : Int
  home : Int
  told : List (Option Int)
def dOpt : Option Int → PyData
  | none => .none
  | some i => .int i
def dCard (c : Card) : PyData := .tuple [dWay c.way, .int c.come, .int c.home, .tuple (c.told.map dOpt)]
def dCards (cs : List Card) : PyData := .tuple (cs.map dCard)
def dHours (hs : List (List Int)) : PyData := .tuple (hs.map dInts)
def dSeenL (l : List (Nat × Card)) : List PyData := l.map fun p => .tuple [iN p.1, dCard p.2]
abbrev Pass := Int × Nat × Nat
def dPass (p : Pass) : PyData := .tuple [.int p.1, iN p.2.1, iN p.2.2]
def dPastL (l : List Pass) : List PyData := l.map dPass
end Z
/-! Zk: the rules with the written part as a letter, so that they serve within a comprehension. -/
namespace Z
open PySem PySem.Spec PyProof.Rows L2 Evl
section
variable {X : Cx} {K : PySem.W.Frag}
theorem kAdd (hK : X.K = K := by rfl) : OpR X (binaryOp .Add) (rAddA K) := hK ▸ oAdd
theorem kMul (hK : X.K = K := by rfl) : OpR X (binaryOp .Mult) (rMulA K) := hK ▸ oMul
theorem kEq (hu : X.A.units + 64 < cLine) (hK : X.K = K := by rfl) : OpR X (compareOp .Eq) (rEqA K) := hK ▸ oEq hu
theorem kNe (hu : X.A.units + 64 < cLine) (hK : X.K = K := by rfl) : OpR X (compareOp .NotEq) (rNeA K) := hK ▸ oNe hu
theorem kIn (hK : X.K = K := by rfl) : OpR X (compareOp .In) (rIn K false) := hK ▸ oIn
theorem kSl (hK : X.K = K := by rfl) : SlR X (rSlAny K) := hK ▸ oSl
theorem kIx (hK : X.K = K := by rfl) : IxR X (rIx K) := hK ▸ ix_seq
theorem kLen (hK : X.K = K := by rfl) : CallR X (.builtin "len") (rLenQ K) := hK ▸ cLen
theorem kTup (hK : X.K = K := by rfl) : CallR X (.type "tuple") (rTupQ K) := hK ▸ cTup
theorem kLst (hc : X.calm = true := by rfl) (hK : X.K = K := by rfl) : CallR X (.type "list") (rLstQ K) := hK ▸ cLst hc
theorem kIsi (hK : X.K = K := by rfl) : CallR X (.builtin "isinstance") (rIsiA K) := hK ▸ cIsi
theorem kSum (hc : X.calm = true := by rfl) (hK : X.K = K := by rfl) : CallR X (.builtin "sum") (rSum K) := hK ▸ cr_sum hc
theorem kMax1 (hc : X.calm = true := by rfl) (hK : X.K = K := by rfl) : CallR X (.builtin "max") (rMax K) := hK ▸ cr_max hc
theorem kMax2 (hc : X.calm = true := by rfl) : CallR X (.builtin "max") Z.rMax2 := cMax2 hc
theorem kAll (hc : X.calm = true := by rfl) (hK : X.K = K := by rfl) : CallR X (.builtin "all") (rAll K) := hK ▸ cr_all hc
theorem kAny (hc : X.calm = true := by rfl) (hK : X.K = K := by rfl) : CallR X (.builtin "any") (rAny K) := hK ▸ cr_any hc
theorem kSortI (hK : X.K = K := by rfl) : CallR X (.builtin "sorted") (rSortedI K) := hK ▸ cr_sortedI
theorem kSortP (hK : X.K = K := by rfl) : CallR X (.builtin "sorted") (rSortedPO K) := hK ▸ cr_sortedPO
theorem kSortT {d : Nat} {b : Int} (hd : 1 ≤ d) (hK : X.K = K := by rfl) : CallR X (.builtin "sorted") (rSortU K d b) := hK ▸ cr_sortT hd
theorem kDict (hc : X.calm = true := by rfl) (hK : X.K = K := by rfl) : CallR X (.type "dict") (rDictT K) := hK ▸ cr_dictT hc
variable {e a : Expr} {ta te tl : TE} {t : TA} {p p2 q pos tpos apos : Pos} {f : Str}
theorem k_fld (he : PE X e ta) (hb : attributeBase e f X.env (eval e X.env) = eval e X.env := by rfl) (hK : X.K = K := by rfl) : PE X (.Attribute e f pos) (tFld K ta f) := hK ▸ pe_fld he hb
theorem k_sq {tg l : Expr} (hl : PE X l tl) (hK : X.K = K := by rfl) : PI X tg l (iSq K tl) := hK ▸ pi_sq hl
theorem k_ef {elts : List Expr} {kk : Nat} (f : Bool) (hg : Gl X "enumerate") (hm : X.mg "enumerate" = none) (ha : PA X [e] t) (hs : starEach [e] X.env = [(false, eval e X.env)] := by rfl) (hK : X.K = K := by rfl) :
    PI X (.Tuple elts kk tpos) (.Call (.Name "enumerate" p) [e] [] pos) (iEf f K t) := hK ▸ pi_ef f hg hm ha hs
theorem k_zf {e2 : Expr} {elts : List Expr} {kk : Nat} (f g : Bool) (hg : Gl X "zip") (hm : X.mg "zip" = none) (ha : PA X [e, e2] t)
    (hs : starEach [e, e2] X.env = (false, eval e X.env) :: starEach [e2] X.env := by rfl) (hpl : (backTo pos (starEach [e2] X.env)).any (·.1) = false := by rfl) (hK : X.K = K := by rfl) :
    PI X (.Tuple elts kk tpos) (.Call (.Name "zip" p) [e, e2] [] pos) (iZf f g K t) := hK ▸ pi_zf f g hg hm ha hs hpl
theorem k_lenSet (hg : Gl X "len") (hm : X.mg "len" = none) (hg2 : Gl X "set") (hm2 : X.mg "set" = none) (ha : PE X a ta) (hc : X.calm = true := by rfl)
    (na : starEach [a] X.env = (false, eval a X.env) :: starEach [] X.env := by rfl) (hK : X.K = K := by rfl) : PE X (.Call (.Name "len" p) [.Call (.Name "set" p2) [a] [] q] [] pos) (tLenSetA K ta) := hK ▸ pe_lenSetA hg hm hg2 hm2 ha hc na
theorem k_tup {es : List Expr} {k : Nat} {t : TGs} {n : Nat} (hc : X.calm = true) (h : PGs X es t)
    (hn : (assignEach es X.env).length = n := by rfl) (hst : (assignEach es X.env).findIdx? (·.1) = none := by rfl) (hK : X.K = K := by rfl) : PG X (.Tuple es k pos) (gTup K n t) := hK ▸ pg_tup hc h hn hst
theorem k_cloF {k : Nat} {R : Addr → List V → Hp → VK → Prop} {pl : Sem Bool} {m : Str} {o : Expr} {es : List Expr} (Rn : Runs X.prog X.w X.K X.mg X.base k R) (hr : Room k X.A) (he : PE X o ta) (ha : PA X (e :: es) t)
    (hst : starEach (e :: es) X.env = (false, eval e X.env) :: starEach es X.env := by rfl) (hpl : (backTo pos (starEach es X.env)).any (·.1) = false := by rfl)
    (ht : eval (.Call (.Attribute o m apos) (e :: es) [] pos) X.env = (do
      let ov ← eval o X.env
      standAt apos.atName
      let (f, first) ← holding [ov] (getMethod ov m pl)
      callWith pos f first (backTo pos (starEach (e :: es) X.env)) (backToKw pos (keywordEach [] X.env))) := by rfl) (hK : X.K = K := by rfl) :
    PE X (.Call (.Attribute o m apos) (e :: es) [] pos) (tCloF K R m ta t) := hK ▸ pe_cloF Rn hr he ha hst hpl ht
end
end Z
/-! Da: _law_draw. -/
namespace Z
open PySem PySem.Spec PyProof.Rows L2 Evl

/-- the pool at p, its great numbers in the list at c -/
def PoolAt (H : Hp) (p c : Addr) : Prop := ∃ (z n : Int) (cells : List Int), H p = some (.lst [.int z, .int n, .ref c]) ∧ H c = some (.lst (cells.map V.int)) ∧ cells.length ≤ 1000
theorem PoolAt.ne {H : Hp} {p c : Addr} (h : PoolAt H p c) : p ≠ c := by
  obtain ⟨z, n, cells, h1, h2, _⟩ := h
  intro e
  rw [e, h2] at h1
  match cells, h1 with
  | [], h1 => cases h1
  | [_], h1 => cases h1
  | [_, _], h1 => cases h1
  | _ :: _ :: _ :: _, h1 => cases h1
/-- all but what stands at p and c is as it was -/
def Fr2 (p c : Addr) (H H' : Hp) : Prop := ∀ b o, b ≠ p → b ≠ c → H b = some o → H' b = some o
theorem Fr2.refl {p c : Addr} {H : Hp} : Fr2 p c H H := fun _ _ _ _ h => h
theorem Fr2.trans {p c : Addr} {H H1 H2 : Hp} (a : Fr2 p c H H1) (b : Fr2 p c H1 H2) : Fr2 p c H H2 := fun x o h1 h2 h => b x o h1 h2 (a x o h1 h2 h)
theorem Fr2.of {p c : Addr} {H H' : Hp} (e : Ex H H') : Fr2 p c H H' := fun b o _ _ h => e b o h
theorem Fr2.p {p c : Addr} {H : Hp} {o : HO} : Fr2 p c H (upd H p o) := fun b _ h1 _ h => by rw [upd_ne h1]; exact h
theorem Fr2.c {p c : Addr} {H : Hp} {o : HO} : Fr2 p c H (upd H c o) := fun b _ _ h2 h => by rw [upd_ne h2]; exact h
def spDraw : Sp := fun vs H Q _ => ∃ (p c : Addr) (m : Int), vs = [.ref p, .int m] ∧ 0 < m ∧ m < 1073741824 ∧ PoolAt H p c ∧
  ∀ (H' : Hp) (d : Int), 0 ≤ d → d < m → Fr2 p c H H' → PoolAt H' p c → Q (.int d) H'

abbrev s_l_draw : Stmt := top 37
abbrev N_l_draw : List Str := ["_law_pool_here", "_law_many", "_law_cells", "_law_mixed", "_law_digit"]
theorem sc_l_draw : FnScope N_l_draw ["_law_pool_here", "_law_many"] (defScope s_l_draw) := ⟨rfl, rfl, rfl, by decide +kernel, rfl, by decide +kernel, by decide +kernel⟩
section
variable {P : Program} {w : World} {K : PySem.W.Frag} {mg : Str → Option Value} {base : Heap}
theorem at0 {v : V} {r : List V} : atI (v :: r) 0 = some v := atI_nat (j := 0) rfl
theorem at1 {u v : V} {r : List V} : atI (u :: v :: r) 1 = some v := atI_nat (j := 1) rfl
theorem at2 {u v x : V} {r : List V} : atI (u :: v :: x :: r) 2 = some x := atI_nat (j := 2) rfl
theorem ok_l_draw {f : Addr} {fd : FuncData} (F : Fun K "_law_draw" "_law_draw" s_l_draw f fd) (B : Bl mg) : FnOk P w K mg base CX0 1 f fd ["_law_pool_here", "_law_many"] spDraw := by
  refine F.ok sc_l_draw (fun vs H Q E h => ?_) (fun cdv A outer s H vs Q E hr h => ?_)
  · obtain ⟨p, c, m, rfl, _⟩ := h
    rfl
  · obtain ⟨p, c, m, rfl, m0, m1, hP, k⟩ := h
    have pc : p ≠ c := hP.ne
    obtain ⟨z, n, cells, hp, hc, hcl⟩ := hP
    have hu64 := hr.units
    have hu := hu_of hr
    refine ⟨_, (pss_cons (ps_asg (pe_op (kAdd (K := K)) (pe_ix (kIx (K := K)) (pv 0) pe_int (fun _ _ => rfl)) pe_int) (pg_sub (pv 0) pe_int set_list))
    (pss_cons (ps_set (i := 2) sc_l_draw.nd rfl (.inl rfl) (pe_ix (kIx (K := K)) (pv 0) pe_int (fun _ _ => rfl)))
    (pss_cons (ps_if (pt_cmpR oGt (pe_callB (kLen (K := K)) (by rfl) B.len b_len (pa_cons (pv 2) pa_nil)) pe_int (nomark _))
    (pss_cons (ps_set (i := 4) sc_l_draw.nd rfl (.inl rfl) (pe_op oMod (pe_callTy cInt (by rfl) B.int b_int (pa_cons (pe_ix (kIx (K := K)) (pv 2) pe_int (fun _ _ => rfl)) pa_nil)) (pv 1)))
      (pss_cons (ps_asg (pe_op oDiv (pe_callTy cInt (by rfl) B.int b_int (pa_cons (pe_ix (kIx (K := K)) (pv 2) pe_int (fun _ _ => rfl)) pa_nil)) (pv 1)) (pg_sub (pv 2) pe_int set_list))
      (pss_cons (ps_if (pt_cmpR (kEq (K := K) hu64) (pe_ix (kIx (K := K)) (pv 2) pe_int (fun _ _ => rfl)) pe_int (nomark _))
      (pss_one (ps_expr (pe_bm PySem.F.plainAttrs_list PySem.F.slot_list_pop PySem.F.type_list_pop mt_popAt (pv 2) (pa_cons pe_int pa_nil))))
      pss_nil)
      (pss_one (ps_ret (pv 4))))))
    pss_nil)
    (pss_cons (ps_set (i := 3) sc_l_draw.nd rfl (.inl rfl) (pe_op oMod (pe_callTy cInt (by rfl) B.int b_int (pa_cons (pe_op (kMul (K := K)) (pe_op (kAdd (K := K)) (pe_ix (kIx (K := K)) (pv 0) pe_int (fun _ _ => rfl)) (pe_op (kMul (K := K)) pe_int (pe_ix (kIx (K := K)) (pv 0) pe_int (fun _ _ => rfl)))) pe_int) pa_nil)) pe_int))
    (pss_cons (ps_set (i := 3) sc_l_draw.nd rfl (.inl rfl) (pe_op oMod (pe_callTy cInt (by rfl) B.int b_int (pa_cons (pe_op (kMul (K := K)) (pv 3) (pe_op (kAdd (K := K)) (pe_op oDiv (pv 3) pe_int) pe_int)) pa_nil)) pe_int))
    (pss_cons (ps_set (i := 3) sc_l_draw.nd rfl (.inl rfl) (pe_op oMod (pe_callTy cInt (by rfl) B.int b_int (pa_cons (pe_op (kMul (K := K)) (pv 3) (pe_op (kAdd (K := K)) (pe_op oDiv (pv 3) pe_int) pe_int)) pa_nil)) pe_int))
    (pss_one (ps_ret (pe_op oMod (pe_callTy cInt (by rfl) B.int b_int (pa_cons (pe_op oDiv (pv 3) pe_int) pa_nil)) (pv 1)))))))))), ?_⟩
    -- pool[1] = pool[1] + 1
    refine q_setL (j := 1) hp (ev_add (ev_ixL (ev_var rfl) hp ev_c at1) ev_c) (ev_var rfl) ev_c (by show 1 < 3; decide) fun H1 e1 => ?_
    have hp1 : upd H1 p (.lst [.int z, .int (n + 1), .ref c]) p = some (.lst [.int z, .int (n + 1), .ref c]) := upd_same
    have hc1 : upd H1 p (.lst [.int z, .int (n + 1), .ref c]) c = some (.lst (cells.map V.int)) := by rw [upd_ne pc.symm]; exact e1 _ _ hc
    have f1 : Fr2 p c H (upd H1 p (.lst [.int z, .int (n + 1), .ref c])) := (Fr2.of e1).trans Fr2.p
    -- cells = pool[2]
    refine q_asg (ev_ixL (ev_var rfl) hp1 ev_c at2) fun H2 e2 => ?_
    have hp2 := e2 _ _ hp1
    have hc2 := e2 _ _ hc1
    have f2 : Fr2 p c H H2 := f1.trans (Fr2.of e2)
    clear hp1 hc1 f1 e2 e1
    refine q_when (et_test (ev_gt (ev_lenL (ev_var rfl) hc2) ev_c)) (fun hb H3 e3 => ?_) (fun hb H3 e3 => ?_)
    · have hp3 := e3 _ _ hp2
      have hc3 := e3 _ _ hc2
      have f3 : Fr2 p c H H3 := f2.trans (Fr2.of e3)
      match cells, hcl, hb, hc3 with
      | [], _, hb, _ => simp at hb
      | x :: r, hcl, _, hc3 =>
        refine q_asg (ev_mod (ev_int (ev_ixL (ev_var rfl) hc3 ev_c at0)) (ev_var rfl) m0) fun H4 e4 => ?_
        have hp4 := e4 _ _ hp3
        have hc4 := e4 _ _ hc3
        have f4 : Fr2 p c H H4 := f3.trans (Fr2.of e4)
        refine q_setL (j := 0) hc4 (ev_div (ev_int (ev_ixL (ev_var rfl) hc4 ev_c at0)) (ev_var rfl) ⟨m0, m1⟩) (ev_var rfl) ev_c (by simp) fun H5 e5 => ?_
        have hp5 : upd H5 c (.lst (((x :: r).map V.int).set 0 (.int (x / m)))) p = some (.lst [.int z, .int (n + 1), .ref c]) := by rw [upd_ne pc]; exact e5 _ _ hp4
        have hc5 : upd H5 c (.lst (((x :: r).map V.int).set 0 (.int (x / m)))) c = some (.lst (V.int (x / m) :: r.map V.int)) := upd_same
        have f5 : Fr2 p c H (upd H5 c (.lst (((x :: r).map V.int).set 0 (.int (x / m))))) := (f4.trans (Fr2.of e5)).trans Fr2.c
        have d0 : 0 ≤ x % m := Int.emod_nonneg _ (by omega)
        have d1 : x % m < m := Int.emod_lt_of_pos _ m0
        refine q_when (et_test (ev_eqI (ev_ixL (ev_var rfl) hc5 ev_c at0) ev_c)) (fun hb H6 e6 => ?_) (fun hb H6 e6 => ?_)
        · have hp6 := e6 _ _ hp5
          have hc6 := e6 _ _ hc5
          refine ⟨_, rfl, .inl ⟨rfl, _, SqL.of hc6⟩, c, _, 0, 0, _, rfl, rfl, hc6, by decide, by decide, ?_, rfl, ?_⟩
          · simp [seqIndex?]
          · refine s_ret (ev_var rfl) fun H7 e7 => k _ _ d0 d1 (((f5.trans (Fr2.of e6)).trans Fr2.c).trans (Fr2.of e7)) ⟨z, n + 1, r, e7 _ _ (by rw [upd_ne pc]; exact hp6), e7 _ _ upd_same, by simp at hcl; omega⟩
        · refine s_ret (ev_var rfl) fun H7 e7 => k _ _ d0 d1 ((f5.trans (Fr2.of e6)).trans (Fr2.of e7)) ⟨z, n + 1, x / m :: r, e7 _ _ (e6 _ _ hp5), e7 _ _ (e6 _ _ hc5), hcl⟩
    · have hp3 := e3 _ _ hp2
      have hc3 := e3 _ _ hc2
      have f3 : Fr2 p c H H3 := f2.trans (Fr2.of e3)
      have sm : ∀ a : Int, -(2 ^ 64) < a % 2147483647 ∧ a % 2147483647 < 2 ^ 64 := fun a => by
        have h1 := Int.emod_nonneg a (b := 2147483647) (by decide)
        have h2 := Int.emod_lt_of_pos a (b := 2147483647) (by decide)
        omega
      refine q_asg (ev_mod (ev_int (ev_mul (ev_add (ev_ixL (ev_var rfl) hp3 ev_c at0) (ev_mul ev_c (ev_ixL (ev_var rfl) hp3 ev_c at1) (.inl (by decide)))) ev_c (.inr (by decide)))) ev_c (by decide)) fun H4 e4 => ?_
      refine q_asg (ev_mod (ev_int (ev_mul (ev_var rfl) (ev_add (ev_div (ev_var rfl) ev_c ⟨by decide, by decide⟩) ev_c) (.inl (sm _)))) ev_c (by decide)) fun H5 e5 => ?_
      refine q_asg (ev_mod (ev_int (ev_mul (ev_var rfl) (ev_add (ev_div (ev_var rfl) ev_c ⟨by decide, by decide⟩) ev_c) (.inl (sm _)))) ev_c (by decide)) fun H6 e6 => ?_
      refine s_ret (ev_mod (ev_int (ev_div (ev_var rfl) ev_c ⟨by decide, by decide⟩)) (ev_var rfl) m0) fun H7 e7 => ?_
      have e37 : Ex H3 H7 := ((e4.trans e5).trans e6).trans e7
      exact k _ _ (Int.emod_nonneg _ (by omega)) (Int.emod_lt_of_pos _ m0) (f3.trans (Fr2.of e37)) ⟨z, n + 1, cells, e37 _ _ hp3, e37 _ _ hc3, hcl⟩
end
end Z
/-! Db: _law_next. -/
namespace Z
open PySem PySem.Spec PyProof.Rows L2 Evl

/-- the roads that begin where the road r ends -/
def nexts (W : Web) (r : Nat) : List Nat := (List.range W.roads.length).filter fun o => decide ((W.roads.getD o (0, 0)).1 = (W.roads.getD r (0, 0)).2)
def spNext : Sp := fun vs H Q _ => ∃ (a : Addr) (W : Web) (r : Nat), vs = [.ref a, .int (r : Int)] ∧ WebAt H a W ∧ r < W.roads.length ∧ W.roads.length ≤ 1000 ∧
  ∀ (p : Addr) (H' : Hp), H p = none → Ex H H' → H' p = some (.lst ((nexts W r).map fun n : Nat => V.int (n : Int))) → Q (.ref p) H'
theorem dta_nats {H : Hp} {ns : List Nat} {vs : List V} (h : DtA H (ns.map iN) vs) : vs = ns.map fun n : Nat => V.int (n : Int) := by
  have e : ns.map iN = (ns.map fun n : Nat => (n : Int)).map PyData.int := by rw [List.map_map] <;> rfl
  rw [e] at h
  rw [h.ints, List.map_map] <;> rfl
section
variable {σ : L2.St} {H : Hp} {W : Web} {te tb : TE} {K : PySem.W.Frag} {a : Addr}
/-- web[1] .. web[3] -/
theorem ed_roads (hw : WebAt H a W) (h : Ev te σ H (.ref a)) : ED (tOp (rIx K) te (tC (.int 1))) σ H (dRoads W) := ed_ixn (j := 1) (hw.es h) ev_c rfl
theorem ed_rooms (hw : WebAt H a W) (h : Ev te σ H (.ref a)) : ED (tOp (rIx K) te (tC (.int 2))) σ H (dInts W.rooms) := ed_ixn (j := 2) (hw.es h) ev_c rfl
theorem ed_times (hw : WebAt H a W) (h : Ev te σ H (.ref a)) : ED (tOp (rIx K) te (tC (.int 3))) σ H (dInts W.times) := ed_ixn (j := 3) (hw.es h) ev_c rfl
theorem roads_at {r : Nat} (h : r < W.roads.length) : (W.roads.map fun p => PyData.tuple [.int p.1, .int p.2])[r]? = some (.tuple [.int (W.roads.getD r (0, 0)).1, .int (W.roads.getD r (0, 0)).2]) := by
  rw [List.getElem?_map, List.getElem?_eq_getElem h, List.getD_eq_getElem?_getD, List.getElem?_eq_getElem h] <;> rfl
theorem ev_begin {r : Nat} (hw : WebAt H a W) (h : Ev te σ H (.ref a)) (hb : Ev tb σ H (.int (r : Int))) (hr : r < W.roads.length) : Ev (tOp (rIx K) (tOp (rIx K) (tOp (rIx K) te (tC (.int 1))) tb) (tC (.int 0))) σ H (.int (W.roads.getD r (0, 0)).1) :=
  (ed_ixn (j := 0) (ed_ixn (ed_roads hw h).es hb (roads_at hr)).es ev_c rfl).ev
theorem ev_end {r : Nat} (hw : WebAt H a W) (h : Ev te σ H (.ref a)) (hb : Ev tb σ H (.int (r : Int))) (hr : r < W.roads.length) : Ev (tOp (rIx K) (tOp (rIx K) (tOp (rIx K) te (tC (.int 1))) tb) (tC (.int 1))) σ H (.int (W.roads.getD r (0, 0)).2) :=
  (ed_ixn (j := 1) (ed_ixn (ed_roads hw h).es hb (roads_at hr)).es ev_c rfl).ev
theorem ev_many (hw : WebAt H a W) (h : Ev te σ H (.ref a)) : Ev (tCB (rLenQ K) (tCons (tOp (rIx K) te (tC (.int 1))) tNil)) σ H (.int (W.roads.length : Nat)) := by
  have q := ev_len (K := K) (ed_roads (K := K) hw h).es
  rw [List.length_map] at q
  exact q
end
abbrev s_l_next : Stmt := top 38
abbrev N_l_next : List Str := ["_law_web_here", "_law_road", "_law_other"]
theorem sc_l_next : FnScope N_l_next ["_law_web_here", "_law_road"] (defScope s_l_next) := ⟨rfl, rfl, rfl, by decide +kernel, rfl, by decide +kernel, by decide +kernel⟩
section
variable {P : Program} {w : World} {K : PySem.W.Frag} {mg : Str → Option Value} {base : Heap}
theorem ok_l_next {f : Addr} {fd : FuncData} (F : Fun K "_law_next" "_law_next" s_l_next f fd) (B : Bl mg) : FnOk P w K mg base CX0 1 f fd ["_law_web_here", "_law_road"] spNext := by
  refine F.ok sc_l_next (fun vs H Q E h => ?_) (fun cdv A outer s H vs Q E hr h => ?_)
  · obtain ⟨a, W, r, rfl, _⟩ := h
    rfl
  · obtain ⟨a, W, r, rfl, hw, hr0, hr1, k⟩ := h
    have hu64 := hr.units
    refine ⟨_, (pss_one (ps_ret (pe_lc (own := [("_law_other", 2)]) rfl sc_l_next.nd (pi_range1 (by rfl) B.range (pa_cons (pe_callB (kLen (K := K)) (by rfl) B.len b_len (pa_cons (pe_ix (kIx (K := K)) (pv 0) pe_int (fun _ _ => rfl)) pa_nil)) pa_nil)) (blkOk_by (N := N_l_next) (sc := defScope s_l_next) (by decide +kernel)) (fun _ _ _ _ _ => (pg_name (i := 2) sc_l_next.nd rfl (.inl rfl))) (fun _ _ _ _ _ => (pts_one (pt_cmpR (kEq (K := K) hu64) (pe_ix (kIx (K := K)) (pe_ix (kIx (K := K)) (pe_ix (kIx (K := K)) (pv 0) pe_int (fun _ _ => rfl)) (pv 2) (fun _ _ => rfl)) pe_int (fun _ _ => rfl)) (pe_ix (kIx (K := K)) (pe_ix (kIx (K := K)) (pe_ix (kIx (K := K)) (pv 0) pe_int (fun _ _ => rfl)) (pv 1) (fun _ _ => rfl)) pe_int (fun _ _ => rfl)) (nomark _)))) (fun _ _ _ _ _ => (pv 2))))), ?_⟩
    refine s_retLD (eld_rng (fun o => decide ((W.roads.getD o (0, 0)).1 = (W.roads.getD r (0, 0)).2)) iN (ea_cons (ev_many hw (ev_var rfl)) ea_nil) (by omega) fun i H1 hi e1 => ⟨rfl, ?_, fun _ => edI (ev_var rfl)⟩) fun p vs H1 hp e1 h1 h2 => ?_
    · exact et_test (ev_eqI (ev_begin (hw.ex e1) (ev_var rfl) (ev_var rfl) hi) (ev_end (hw.ex e1) (ev_var rfl) (ev_var rfl) hr0))
    · rw [dta_nats h2] at h1
      exact k p H1 hp e1 h1
end
end Z
/-! Dc: _law_ready. -/
namespace Z
open PySem PySem.Spec PyProof.Rows L2 Evl

/-- the tick from which on a letter may be passed, none at home -/
def ready (W : Web) (l : Let) (row : List Int) : Option Int :=
  if row.length = l.1.length then none else some (if row.length = 0 then l.2 else row.getLastD 0 + W.times.getD (l.1.getD (row.length - 1) 0) 0)
def vOpt : Option Int → V
  | none => .non
  | some i => .int i
def spReady : Sp := fun vs H Q _ => ∃ (a r : Addr) (v : V) (W : Web) (l : Let) (row : List Int), vs = [.ref a, v, .ref r] ∧ WebAt H a W ∧ Dt H (dLet l) v ∧ H r = some (.lst (row.map V.int)) ∧ row.length ≤ l.1.length ∧
  (∀ x ∈ l.1, x < W.times.length) ∧ ∀ H', Ex H H' → Q (vOpt (ready W l row)) H'
section
variable {σ : L2.St} {H : Hp} {W : Web} {te tb ta : TE} {K : PySem.W.Frag} {a : Addr} {α : Type}
theorem ev_lenM {l : List α} {f : α → PyData} (h : ES ta σ H (l.map f)) : Ev (tCB (rLenQ K) (tCons ta tNil)) σ H (.int (l.length : Nat)) := by
  have q := ev_len (K := K) h
  rw [List.length_map] at q
  exact q
theorem es_ints {r : Addr} {ns : List Int} (h : Ev te σ H (.ref r)) (hr : H r = some (.lst (ns.map V.int))) : ES te σ H (ns.map PyData.int) := es_list h hr (dta_ints ns)
theorem ix_last {l : List α} {f : α → PyData} {x : α} (h : l ≠ []) : atI (l.map f) (-1) = some (f (l.getLastD x)) := by
  obtain ⟨z, y, rfl⟩ : ∃ z y, l = z ++ [y] := ⟨l.dropLast, l.getLast h, (List.dropLast_concat_getLast h).symm⟩
  rw [List.map_append]
  have e : List.getLastD (z ++ [y]) x = y := by simp
  rw [e]
  exact atI_last _ _
theorem getD_at {l : List α} {i : Nat} {x : α} (h : i < l.length) : l[i]? = some (l.getD i x) := by
  rw [List.getD_eq_getElem?_getD, List.getElem?_eq_getElem h] <;> rfl
theorem map_at {l : List α} {i : Nat} {x : α} {f : α → PyData} (h : i < l.length) : (l.map f)[i]? = some (f (l.getD i x)) := by
  rw [List.getElem?_map, getD_at h] <;> rfl
theorem getD_mem {l : List α} {i : Nat} {x : α} (h : i < l.length) : l.getD i x ∈ l := List.mem_of_getElem? (getD_at h)
theorem ev_isI {i j : Int} (h : Ev te σ H (.int i)) (e : i = j) : Ev te σ H (.int j) := e ▸ h
/-- letter[0], letter[1] -/
theorem ed_way {l : Let} (h : ED te σ H (dLet l)) : ED (tOp (rIx K) te (tC (.int 0))) σ H (dWay l.1) := ed_ixn (j := 0) h.es ev_c rfl
theorem ev_come {l : Let} (h : ED te σ H (dLet l)) : Ev (tOp (rIx K) te (tC (.int 1))) σ H (.int l.2) := (ed_ixn (j := 1) h.es ev_c rfl).ev
theorem ev_road {w : List Nat} {i : Nat} (h : ED te σ H (dWay w)) (hb : Ev tb σ H (.int (i : Int))) (hi : i < w.length) : Ev (tOp (rIx K) te tb) σ H (.int ((w.getD i 0 : Nat) : Int)) := (ed_ixn h.es hb (map_at hi)).ev
theorem ev_num {ns : List Int} {i : Nat} (h : ED te σ H (dInts ns)) (hb : Ev tb σ H (.int (i : Int))) (hi : i < ns.length) : Ev (tOp (rIx K) te tb) σ H (.int (ns.getD i 0)) := (ed_ixn h.es hb (map_at hi)).ev
end
abbrev s_l_ready : Stmt := top 42
abbrev N_l_ready : List Str := ["_law_web_here", "_law_letter_here", "_law_row"]
theorem sc_l_ready : FnScope N_l_ready ["_law_web_here", "_law_letter_here", "_law_row"] (defScope s_l_ready) := ⟨rfl, rfl, rfl, by decide +kernel, rfl, by decide +kernel, by decide +kernel⟩
section
variable {P : Program} {w : World} {K : PySem.W.Frag} {mg : Str → Option Value} {base : Heap}
theorem ok_l_ready {f : Addr} {fd : FuncData} (F : Fun K "_law_ready" "_law_ready" s_l_ready f fd) (B : Bl mg) : FnOk P w K mg base CX0 1 f fd ["_law_web_here", "_law_letter_here", "_law_row"] spReady := by
  refine F.ok sc_l_ready (fun vs H Q E h => ?_) (fun cdv A outer s H vs Q E hr h => ?_)
  · obtain ⟨a, r, v, W, l, row, rfl, _⟩ := h
    rfl
  · obtain ⟨a, r, v, W, l, row, rfl, hw, hv, hrow, hlen, hx, k⟩ := h
    have hu64 := hr.units
    refine ⟨_, (pss_cons (ps_if (pt_cmpR (kEq (K := K) hu64) (pe_callB (kLen (K := K)) (by rfl) B.len b_len (pa_cons (pv 2) pa_nil)) (pe_callB (kLen (K := K)) (by rfl) B.len b_len (pa_cons (pe_ix (kIx (K := K)) (pv 1) pe_int (fun _ _ => rfl)) pa_nil)) (nomark _))
    (pss_one (ps_ret pe_non))
    pss_nil)
    (pss_one (ps_ret (pe_ifExp (pt_cmpR (kEq (K := K) hu64) (pe_callB (kLen (K := K)) (by rfl) B.len b_len (pa_cons (pv 2) pa_nil)) pe_int (nomark _)) (pe_ix (kIx (K := K)) (pv 1) pe_int (fun _ _ => rfl)) (pe_op (kAdd (K := K)) (pe_ix (kIx (K := K)) (pv 2) (pe_un oNeg pe_int) (fun _ _ => rfl)) (pe_ix (kIx (K := K)) (pe_ix (kIx (K := K)) (pv 0) pe_int (fun _ _ => rfl)) (pe_ix (kIx (K := K)) (pe_ix (kIx (K := K)) (pv 1) pe_int (fun _ _ => rfl)) (pe_op oSub (pe_callB (kLen (K := K)) (by rfl) B.len b_len (pa_cons (pv 2) pa_nil)) pe_int) (fun _ _ => rfl)) (fun _ _ => rfl))))))), ?_⟩
    have hL : ∀ {H1}, Ex H H1 → ED (tVar 1) [some (V.ref a), some v, some (V.ref r)] H1 (dLet l) := fun {H1} e1 => ed_var rfl (hv.ex e1)
    have hR : ∀ {H1}, Ex H H1 → ES (tVar 2) [some (V.ref a), some v, some (V.ref r)] H1 (row.map PyData.int) := fun {H1} e1 => es_ints (ev_var rfl) (e1 _ _ hrow)
    refine q_when (et_test (ev_eqI (ev_lenM (hR (Ex.refl H))) (ev_lenM (ed_way (hL (Ex.refl H))).es))) (fun hb H1 e1 => ?_) (fun hb H1 e1 => ?_)
    · refine s_ret ev_c fun H2 e2 => ?_
      have e : ready W l row = none := if_pos (by have := of_decide_eq_true hb; omega)
      have q := k H2 (e1.trans e2)
      rw [e] at q
      exact q
    · have hb2 : ¬ row.length = l.1.length := by have := of_decide_eq_false hb; omega
      have e : ready W l row = some (if row.length = 0 then l.2 else row.getLastD 0 + W.times.getD (l.1.getD (row.length - 1) 0) 0) := if_neg hb2
      refine s_ret (v := .int (if row.length = 0 then l.2 else row.getLastD 0 + W.times.getD (l.1.getD (row.length - 1) 0) 0)) (ev_if (et_test (ev_eqI (ev_lenM (hR e1)) ev_c)) (fun hz => ?_) (fun hz => ?_)) fun H2 e2 => ?_
      · rw [if_pos (by simpa using hz)]
        exact ev_come (hL e1)
      · have hz2 : ¬ row.length = 0 := by simpa using hz
        rw [if_neg hz2]
        have h1 : row.length - 1 < l.1.length := by omega
        have hi : Ev (tOp rSubI (tCB (rLenQ K) (tCons (tVar 2) tNil)) (tC (.int 1))) [some (V.ref a), some v, some (V.ref r)] H1 (.int ((row.length - 1 : Nat) : Int)) := ev_isI (ev_sub (ev_lenM (hR e1)) ev_c) (by omega)
        refine ev_add ?_ (ev_num (ed_times (hw.ex e1) (ev_var rfl)) (ev_road (ed_way (hL e1)) hi h1) (hx _ (getD_mem h1)))
        exact (ed_ix (hR e1) (ev_neg ev_c) (ix_last (x := 0) (fun z => hz2 (by rw [z] <;> rfl)))).ev
      · have q := k H2 (e1.trans e2)
        rw [e] at q
        exact q
end
end Z
/-! Dd: a dict of new lists, filled by setdefault and append. -/
namespace Z
open PySem PySem.Spec PyProof.Rows L2 Evl

def vNat (n : Nat) : V := .int (n : Int)
def encE (e : Int × Addr) : L2.Key × V := (.inl e.1, .ref e.2)
/-- over what stood at H0: a new dict at d, its values new lists, nums tells them -/
structure DW (H0 H : Hp) (d : Addr) (es : List (Int × Addr)) (nums : Int → List Nat) : Prop where
  d0 : H0 d = none
  ex : Ex H0 H
  at_ : H d = some (.dK (es.map encE))
  nk : (es.map (·.1)).Nodup
  na : (es.map (·.2)).Nodup
  all : ∀ e ∈ es, H0 e.2 = none ∧ H e.2 = some (.lst ((nums e.1).map vNat)) ∧ nums e.1 ≠ []
  has : ∀ r, nums r ≠ [] → r ∈ es.map (·.1)
theorem val_none {es : List (Int × Addr)} {r : Int} (h : valV (es.map encE) (.inl r) = none) : r ∉ es.map (·.1) := by
  have := valV_not h
  rw [List.map_map] at this
  intro hm
  obtain ⟨e, he, rfl⟩ := List.mem_map.mp hm
  exact this (List.mem_map.mpr ⟨e, he, rfl⟩)
theorem val_some {es : List (Int × Addr)} {r : Int} {v : V} (h : valV (es.map encE) (.inl r) = some v) : ∃ l, v = .ref l ∧ (r, l) ∈ es := by
  unfold valV at h
  rw [List.find?_map] at h
  cases e : es.find? ((fun kv => decide (kv.1 = (Sum.inl r : L2.Key))) ∘ encE) with
  | none => rw [e] at h; cases h
  | some p =>
    rw [e] at h
    have h1 := List.mem_of_find?_eq_some e
    have h2 := List.find?_some e
    have h3 : (Sum.inl p.1 : L2.Key) = .inl r := of_decide_eq_true h2
    injection h3 with h3
    have h4 : v = .ref p.2 := (Option.some.inj h).symm
    exact ⟨p.2, h4, by rw [← h3]; exact h1⟩
theorem val_of {es : List (Int × Addr)} {r : Int} {l : Addr} (nk : (es.map (·.1)).Nodup) (h : (r, l) ∈ es) : valV (es.map encE) (.inl r) = some (.ref l) := by
  cases e : valV (es.map encE) (.inl r) with
  | none => exact absurd (List.mem_map.mpr ⟨_, h, rfl⟩) (val_none e)
  | some v =>
    obtain ⟨l', rfl, h'⟩ := val_some e
    obtain ⟨i, hi⟩ := List.mem_iff_getElem?.mp h
    obtain ⟨j, hj⟩ := List.mem_iff_getElem?.mp h'
    have ij : i = j := nd_ix nk (x := r) (by rw [List.getElem?_map, hi] <;> rfl) (by rw [List.getElem?_map, hj] <;> rfl)
    rw [ij, hj] at hi
    cases hi
    rfl
theorem put_new {es : List (Int × Addr)} {r : Int} {l : Addr} (h : r ∉ es.map (·.1)) : putK (es.map encE) (.inl r) (.ref l) = (es ++ [(r, l)]).map encE := by
  unfold putK
  have e : (es.map encE).any (fun kv => decide (kv.1 = (Sum.inl r : L2.Key))) = false := by
    rw [List.any_eq_false]
    intro x hx
    obtain ⟨p, hp, rfl⟩ := List.mem_map.mp hx
    intro q
    have q2 : (Sum.inl p.1 : L2.Key) = .inl r := of_decide_eq_true q
    injection q2 with q2
    exact h (List.mem_map.mpr ⟨p, hp, q2⟩)
  rw [e, List.map_append]
  rfl
def bump (nums : Int → List Nat) (r : Int) (n : Nat) : Int → List Nat := fun q => if q = r then nums q ++ [n] else nums q
theorem nodup_snoc {α : Type} {l : List α} {x : α} (h : l.Nodup) (n : x ∉ l) : (l ++ [x]).Nodup := by
  rw [List.nodup_append]
  refine ⟨h, by simp, fun a ha b hb => ?_⟩
  rw [List.mem_singleton] at hb
  rintro rfl
  exact n (hb ▸ ha)
section
variable {K : PySem.W.Frag} {σ : L2.St} {H H0 : Hp} {td tk tn : TE} {D : Ends} {d : Addr} {es : List (Int × Addr)} {nums : Int → List Nat} {r : Int} {n : Nat}
theorem DW.mono {H' : Hp} (w : DW H0 H d es nums) (e : Ex H H') : DW H0 H' d es nums :=
  ⟨w.d0, w.ex.trans e, e _ _ w.at_, w.nk, w.na, fun x hx => ⟨(w.all x hx).1, e _ _ (w.all x hx).2.1, (w.all x hx).2.2⟩, w.has⟩
theorem DW.base {H1 : Hp} (w : DW H1 H d es nums) (e : Ex H0 H1) : DW H0 H d es nums :=
  ⟨fresh_back e w.d0, e.trans w.ex, w.at_, w.nk, w.na, fun x hx => ⟨fresh_back e (w.all x hx).1, (w.all x hx).2⟩, w.has⟩
theorem s_setdefApp (hd : Ev td σ H (.ref d)) (hk : Ev tk σ H (.int r)) (hv : ∀ H3 Q, Q (.int (n : Int)) H3 → tn σ H3 Q)
    (w : DW H0 H d es nums) (hz : es.length ≤ 1000) (hz2 : (nums r).length ≤ 1000) (k : ∀ H' es', DW H0 H' d es' (bump nums r n) → es'.length ≤ es.length + 1 → D.nx σ H') :
    tDrop (tBM K "list" rAppend (tDSetd td tk (tLst tNil)) (tCons tn tNil)) D σ H := by
  refine hd H (Ex.refl H) _ fun H1 e1 => ?_
  refine ⟨d, rfl, .inl ⟨_, .inl (e1 _ _ w.at_)⟩, hk H1 e1 _ fun H2 e2 => ⟨Nat.zero_le _, fun p hp => ?_⟩⟩
  have e12 : Ex H H2 := e1.trans e2
  have w2 := w.mono e12
  have w3 : DW H0 (upd H2 p (.lst [])) d es nums := w2.mono (Ex.new hp)
  have pd : p ≠ d := fun z => by
    rw [z] at hp
    rw [w2.at_] at hp
    cases hp
  have p0 : H0 p = none := by
    cases q : H0 p with
    | none => rfl
    | some o =>
      rw [w2.ex p o q] at hp
      cases hp
  refine ⟨es.map encE, .inl r, w3.at_, rfl, by rw [List.length_map, sizeLine_eq]; omega, fun v hvl => ?_, fun hvn => ?_⟩
  · obtain ⟨l, rfl, hl⟩ := val_some hvl
    obtain ⟨a1, a2, a3⟩ := w3.all _ hl
    refine ⟨.inl ⟨rfl, _, SqL.of a2⟩, hv _ _ ⟨l, _, _, rfl, rfl, a2, by rw [List.length_map, sizeLine_eq]; show (nums r).length < _; omega, ?_⟩⟩
    have ld : l ≠ d := ne_of a2 w3.at_ (fun z => by cases z)
    refine k _ es ⟨w.d0, fun b o hb => ?_, by rw [upd_ne ld.symm]; exact w3.at_, w.nk, w.na, fun e he => ?_, fun q hq => ?_⟩ (Nat.le_succ _)
    · rw [upd_ne (ne_of_none hb a1)]
      exact w3.ex _ _ hb
    · obtain ⟨b1, b2, b3⟩ := w3.all e he
      refine ⟨b1, ?_, ?_⟩
      · by_cases hel : e.2 = l
        · have hi : e.1 = r := by
            obtain ⟨i, hi⟩ := List.mem_iff_getElem?.mp he
            obtain ⟨j, hj⟩ := List.mem_iff_getElem?.mp hl
            have ij : i = j := nd_ix w.na (x := l) (by rw [List.getElem?_map, hi]; exact congrArg some hel) (by rw [List.getElem?_map, hj] <;> rfl)
            rw [ij, hj] at hi
            cases hi
            rfl
          rw [hel, upd_same, hi]
          unfold bump
          rw [if_pos rfl, List.map_append]
          rfl
        · rw [upd_ne hel, b2]
          unfold bump
          rw [if_neg]
          intro hi
          have : (r, e.2) ∈ es := by
            rw [← hi]
            exact he
          have h1 := val_of w.nk this
          have h2 := val_of w.nk hl
          rw [h1] at h2
          cases h2
          exact hel rfl
      · unfold bump
        split
        · simp
        · exact b3
    · unfold bump at hq
      split at hq
      · rename_i e
        rw [e]
        exact List.mem_map.mpr ⟨_, hl, rfl⟩
      · exact w.has q hq
  · have hnr := val_none hvn
    have hp3 : upd H2 p (.lst []) p = some (.lst []) := upd_same
    have pn : p ∉ es.map (·.2) := fun hm => by
      obtain ⟨e, he, q⟩ := List.mem_map.mp hm
      have := (w2.all e he).2.1
      rw [q, hp] at this
      cases this
    have hn0 : nums r = [] := by
      cases q : nums r with
      | nil => rfl
      | cons a b => exact absurd (w.has r (by rw [q]; simp)) hnr
    refine ⟨.inl ⟨rfl, [], SqL.of (by rw [upd_ne pd]; exact hp3)⟩, hv _ _ ⟨p, [], _, rfl, rfl, by rw [upd_ne pd]; exact hp3, by rw [sizeLine_eq]; decide, ?_⟩⟩
    refine k _ (es ++ [(r, p)]) ⟨w.d0, fun b o hb => ?_, ?_, ?_, ?_, fun e he => ?_, fun q hq => ?_⟩ (by rw [List.length_append] <;> simp)
    · rw [upd_ne (ne_of_none hb p0), upd_ne (ne_of_none hb w.d0)]
      exact w3.ex _ _ hb
    · rw [upd_ne pd.symm, upd_same, put_new hnr]
    · rw [List.map_append]
      exact nodup_snoc w.nk hnr
    · rw [List.map_append]
      exact nodup_snoc w.na pn
    · rcases List.mem_append.mp he with he | he
      · obtain ⟨b1, b2, b3⟩ := w2.all e he
        have ep : e.2 ≠ p := fun z => pn (List.mem_map.mpr ⟨e, he, z⟩)
        have er : e.1 ≠ r := fun z => hnr (List.mem_map.mpr ⟨e, he, z⟩)
        have ed : e.2 ≠ d := ne_of b2 w2.at_ (fun z => by cases z)
        refine ⟨b1, ?_, ?_⟩
        · rw [upd_ne ep, upd_ne ed, upd_ne ep, b2]
          unfold bump
          rw [if_neg er]
        · unfold bump
          rw [if_neg er]
          exact b3
      · rw [List.mem_singleton] at he
        subst he
        refine ⟨p0, ?_, ?_⟩
        · rw [upd_same]
          show some (HO.lst ([] ++ [V.int (n : Int)])) = some (.lst ((bump nums r n r).map vNat))
          unfold bump
          rw [if_pos rfl, hn0] <;> rfl
        · unfold bump
          show (if r = r then nums r ++ [n] else nums r) ≠ []
          rw [if_pos rfl]
          simp
    · rw [List.map_append]
      by_cases e : q = r
      · rw [e]
        exact List.mem_append_right _ (by simp)
      · unfold bump at hq
        rw [if_neg e] at hq
        exact List.mem_append_left _ (w.has q hq)
end
end Z
/-! De: _law_waits. -/
namespace Z
open PySem PySem.Spec PyProof.Rows L2 Evl

/-! ### calls whose arguments are told by a word -/
def EAP (ta : TA) (σ : L2.St) (H : Hp) (P : List V → Hp → Prop) : Prop := ∀ H1, Ex H H1 → ∀ Q : List V → Hp → Prop, (∀ vs H2, Ex H1 H2 → P vs H2 → Q vs H2) → ta σ H1 Q
section
variable {σ : L2.St} {H : Hp} {ta te : TE} {tr : TA} {P : List V → Hp → Prop} {v z : V} {d : PyData} {sp : Sp} {t : TA}
theorem eap_nil : EAP tNil σ H fun vs _ => vs = [] := fun H1 _ _ q => q [] H1 (Ex.refl H1) rfl
theorem eap_v (h : Ev ta σ H v) (hr : EAP tr σ H P) : EAP (tCons ta tr) σ H fun vs H' => ∃ r, vs = v :: r ∧ P r H' := fun H1 e1 _ q =>
  h H1 e1 _ fun H2 e2 => hr H2 (e1.trans e2) _ fun vs H3 e3 p => q _ H3 (e2.trans e3) ⟨vs, rfl, p⟩
theorem eap_d (h : ED ta σ H d) (hr : EAP tr σ H P) : EAP (tCons ta tr) σ H fun vs H' => ∃ x r, vs = x :: r ∧ Dt H' d x ∧ P r H' := fun H1 e1 _ q =>
  h H1 e1 _ fun x H2 e2 hx => hr H2 (e1.trans e2) _ fun vs H3 e3 p => q _ H3 (e2.trans e3) ⟨x, vs, rfl, hx.ex e3, p⟩
theorem eap_s {ds : List PyData} (h : ES ta σ H ds) (hr : EAP tr σ H P) : EAP (tCons ta tr) σ H fun vs H' => ∃ f a xs r, vs = .ref a :: r ∧ Sq0 f H' a xs ∧ DtA H' ds xs ∧ P r H' := fun H1 e1 _ q =>
  h H1 e1 _ fun f a xs H2 e2 hsq hx => hr H2 (e1.trans e2) _ fun vs H3 e3 p => q _ H3 (e2.trans e3) ⟨f, a, xs, vs, rfl, hsq.ex e3, hx.ex e3, p⟩
theorem ev_callP (h : EAP t σ H P) (hs : ∀ vs H1, Ex H H1 → P vs H1 → ∀ Q : VK, (∀ H2, Ex H1 H2 → Q z H2) → sp vs H1 Q E0) : Ev (tCall sp [] E0 t) σ H z := fun H1 e1 Q q =>
  h H1 e1 _ fun vs H2 e2 p => by
    rw [List.append_nil]
    exact hs vs H2 (e1.trans e2) p Q fun H3 e3 => q H3 (e2.trans e3)
theorem ed_callP (h : EAP t σ H P) (hs : ∀ vs H1, Ex H H1 → P vs H1 → ∀ Q : VK, (∀ v H2, Ex H1 H2 → Dt H2 d v → Q v H2) → sp vs H1 Q E0) : ED (tCall sp [] E0 t) σ H d := fun H1 e1 Q q =>
  h H1 e1 _ fun vs H2 e2 p => by
    rw [List.append_nil]
    exact hs vs H2 (e1.trans e2) p Q fun v H3 e3 hd => q v H3 (e2.trans e3) hd
end

/-- a list or a tuple of data -/
def SqD (H : Hp) (v : V) (ds : List PyData) : Prop := ∃ f a vs, v = .ref a ∧ Sq0 f H a vs ∧ DtA H ds vs
theorem SqD.ex {H H' : Hp} {v : V} {ds : List PyData} (h : SqD H v ds) (e : Ex H H') : SqD H' v ds := by
  obtain ⟨f, a, vs, rfl, h1, h2⟩ := h
  exact ⟨f, a, vs, rfl, h1.ex e, h2.ex e⟩
theorem SqD.es {H : Hp} {v : V} {ds : List PyData} {te : TE} {σ : L2.St} (h : SqD H v ds) (hv : Ev te σ H v) : ES te σ H ds := fun H1 e1 Q q => by
  obtain ⟨f, a, vs, rfl, h1, h2⟩ := h
  exact hv H1 e1 Q fun H2 e2 => q f a vs H2 e2 (h1.ex (e1.trans e2)) (h2.ex (e1.trans e2))
theorem Dt.sqd {H : Hp} {v : V} {ds : List PyData} (h : Dt H (.tuple ds) v) : SqD H v ds := by
  obtain ⟨a, xs, rfl, h1, h2⟩ := h
  exact ⟨true, a, xs, rfl, h1, h2⟩
/-! ### rows -/
structure RowsAt (H : Hp) (a : Addr) (rs : List Addr) (rows : List (List Int)) : Prop where
  at_ : H a = some (.lst (rs.map V.ref))
  nd : rs.Nodup
  len : rs.length = rows.length
  row : ∀ (i : Nat) (r : Addr), rs[i]? = some r → H r = some (.lst ((rows.getD i []).map V.int))
theorem RowsAt.ex {H H' : Hp} {a : Addr} {rs : List Addr} {rows : List (List Int)} (h : RowsAt H a rs rows) (e : Ex H H') : RowsAt H' a rs rows :=
  ⟨e _ _ h.at_, h.nd, h.len, fun i r hi => e _ _ (h.row i r hi)⟩
theorem RowsAt.get {H : Hp} {a : Addr} {rs : List Addr} {rows : List (List Int)} (h : RowsAt H a rs rows) {i : Nat} (hi : i < rows.length) : ∃ r, rs[i]? = some r ∧ H r = some (.lst ((rows.getD i []).map V.int)) ∧ atI (rs.map V.ref) (i : Int) = some (.ref r) := by
  have hl := h.len
  have e : rs[i]? = some rs[i] := List.getElem?_eq_getElem (by omega)
  exact ⟨_, e, h.row i _ e, atI_nat (by rw [List.getElem?_map, e] <;> rfl)⟩
/-- the road at which a letter may be passed -/
def due (W : Web) (l : Let) (row : List Int) (tick : Int) : Option Nat := match ready W l row with
  | none => none
  | some t => if t ≤ tick then some (l.1.getD row.length 0) else none
/-- of the first m letters those that may be passed at the road r -/
def nums (W : Web) (ls : List Let) (rows : List (List Int)) (tick : Int) (m : Nat) : Int → List Nat := fun r =>
  (List.range m).filter fun n => decide ((due W (ls.getD n ([], 0)) (rows.getD n []) tick).map (fun x : Nat => (x : Int)) = some r)
theorem nums_no {W : Web} {ls : List Let} {rows : List (List Int)} {tick : Int} {m : Nat} (h : due W (ls.getD m ([], 0)) (rows.getD m []) tick = none) : nums W ls rows tick (m + 1) = nums W ls rows tick m := by
  funext r
  unfold nums
  rw [List.range_succ, List.filter_append, List.filter_cons, h]
  simp
theorem nums_yes {W : Web} {ls : List Let} {rows : List (List Int)} {tick : Int} {m r0 : Nat} (h : due W (ls.getD m ([], 0)) (rows.getD m []) tick = some r0) : nums W ls rows tick (m + 1) = bump (nums W ls rows tick m) (r0 : Int) m := by
  funext r
  unfold nums bump
  rw [List.range_succ, List.filter_append, List.filter_cons, h]
  by_cases e : r = (r0 : Int)
  · rw [if_pos e, e]
    simp
  · have e2 : ¬ (r0 : Int) = r := fun z => e z.symm
    rw [if_neg e]
    simp [e2]
theorem nums_len (W : Web) (ls : List Let) (rows : List (List Int)) (tick : Int) (m : Nat) (r : Int) : (nums W ls rows tick m r).length ≤ m := by
  have h := List.length_filter_le (fun n => decide ((due W (ls.getD n ([], 0)) (rows.getD n []) tick).map (fun x : Nat => (x : Int)) = some r)) (List.range m)
  rw [List.length_range] at h
  exact h
/-- the rows fit the letters -/
structure FitR (W : Web) (ls : List Let) (rows : List (List Int)) : Prop where
  len : rows.length = ls.length
  le : ∀ i, i < ls.length → (rows.getD i []).length ≤ (ls.getD i ([], 0)).1.length
  way : ∀ l ∈ ls, ∀ x ∈ l.1, x < W.times.length
theorem ready_lt {W : Web} {l : Let} {row : List Int} {t : Int} (h : ready W l row = some t) (hl : row.length ≤ l.1.length) : row.length < l.1.length := by
  unfold ready at h
  split at h
  · cases h
  · omega
def spWaits : Sp := fun vs H Q _ => ∃ (a b : Addr) (v : V) (rs : List Addr) (W : Web) (ls : List Let) (rows : List (List Int)) (tick : Int), vs = [.ref a, v, .ref b, .int tick] ∧ WebAt H a W ∧ SqD H v (ls.map dLet) ∧ RowsAt H b rs rows ∧ FitR W ls rows ∧ ls.length ≤ 1000 ∧
  ∀ (d : Addr) (H' : Hp) (es : List (Int × Addr)), DW H H' d es (nums W ls rows tick ls.length) → es.length ≤ ls.length → Q (.ref d) H'
abbrev s_l_waits : Stmt := top 43
abbrev N_l_waits : List Str := ["_law_web_here", "_law_letters", "_law_rows", "_law_tick", "_law_found", "_law_number", "_law_ready_here"]
theorem sc_l_waits : FnScope N_l_waits ["_law_web_here", "_law_letters", "_law_rows", "_law_tick"] (defScope s_l_waits) := ⟨rfl, rfl, rfl, by decide +kernel, rfl, by decide +kernel, by decide +kernel⟩
section
variable {P : Program} {w : World} {K : PySem.W.Frag} {mg : Str → Option Value} {base : Heap}
theorem ok_l_waits {f : Addr} {fd : FuncData} (F : Fun K "_law_waits" "_law_waits" s_l_waits f fd) (B : Bl mg) (c_l_ready : Cal P w K mg base "_law_ready" 1 ["_law_web_here", "_law_letter_here", "_law_row"] spReady) :
    FnOk P w K mg base CX0 2 f fd ["_law_web_here", "_law_letters", "_law_rows", "_law_tick"] spWaits := by
  refine F.ok sc_l_waits (fun vs H Q E h => ?_) (fun cdv A outer s H vs Q E hr h => ?_)
  · obtain ⟨a, b, v, rs, W, ls, rows, tick, rfl, _⟩ := h
    rfl
  · obtain ⟨a, b, v, rs, W, ls, rows, tick, rfl, hw, hv, hR, fit, hz, k⟩ := h
    have hu64 := hr.units
    refine ⟨_, (pss_cons (ps_set (i := 4) sc_l_waits.nd rfl (.inl rfl) pe_dnewK)
    (pss_cons (ps_for PassesOwn.never rfl (pi_range1 (by rfl) B.range (pa_cons (pe_callB (kLen (K := K)) (by rfl) B.len b_len (pa_cons (pv 1) pa_nil)) pa_nil)) (pg_name (i := 5) sc_l_waits.nd rfl (.inl rfl))
    (pss_cons (ps_set (i := 6) sc_l_waits.nd rfl (.inl rfl) (pe_callC c_l_ready (hr.mono (by decide)) (by rfl) (pa_cons (pv 0) (pa_cons (pe_ix (kIx (K := K)) (pv 1) (pv 5) (fun _ _ => rfl)) (pa_cons (pe_ix (kIx (K := K)) (pv 2) (pv 5) (fun _ _ => rfl)) pa_nil)))))
      (pss_one (ps_if (PW.pt (pw_and (pt_cmpR oIsNot (pv 6) pe_non (nomark _)) (pw_and1 (pt_cmpR oLe (pv 6) (pv 3) (nomark _)))))
      (pss_one (ps_expr (pe_bm PySem.F.plainAttrs_list PySem.F.slot_list_append PySem.F.type_list_append mt_append (pe_dsetd (pv 4) (pe_ix (kIx (K := K)) (pe_ix (kIx (K := K)) (pe_ix (kIx (K := K)) (pv 1) (pv 5) (fun _ _ => rfl)) pe_int (fun _ _ => rfl)) (pe_callB (kLen (K := K)) (by rfl) B.len b_len (pa_cons (pe_ix (kIx (K := K)) (pv 2) (pv 5) (fun _ _ => rfl)) pa_nil)) (fun _ _ => rfl)) (pe_lst pa_nil) ⟨rfl, rfl, rfl, rfl⟩) (pa_cons (pv 5) pa_nil))))
      pss_nil))))
    (pss_one (ps_ret (pv 4))))), ?_⟩
    intro d hd
    have dw0 : DW H (upd H d (.dK [])) d [] (nums W ls rows tick 0) := ⟨hd, Ex.new hd, upd_same, List.nodup_nil, List.nodup_nil, fun e he => by simp at he, fun r h => absurd rfl h⟩
    show tSeq _ _ _ [some (V.ref a), some v, some (V.ref b), some (V.int tick), some (V.ref d), none, none] _
    refine q_forR1 (n := (ls.length : Int)) (ea_cons (ev_lenM (f := dLet) ((hv.ex (Ex.new hd)).es (ev_var rfl))) ea_nil) (by omega) (fun i σ' H' => ∃ es v5 v6, σ' = [some (V.ref a), some v, some (V.ref b), some (V.int tick), some (V.ref d), v5, v6] ∧ DW H H' d es (nums W ls rows tick i) ∧ es.length ≤ i)
      (fun H1 e1 => ⟨[], none, none, rfl, dw0.mono e1, Nat.le_refl _⟩) (fun i σ' H1 hi p => ?_) (fun σ' H1 p => ?_)
    · obtain ⟨es, v5, v6, rfl, dw, hl⟩ := p
      have hi' : i < ls.length := by omega
      have hwi := hw.ex dw.ex
      have hvi := hv.ex dw.ex
      have hRi := hR.ex dw.ex
      obtain ⟨r, hr1, hr2, hr3⟩ := hRi.get (i := i) (by rw [fit.len]; exact hi')
      have hl1 : ls.getD i ([], 0) ∈ ls := getD_mem hi'
      have eL : ∀ {H2}, Ex H1 H2 → ED (tOp (rIx K) (tVar 1) (tVar 5)) [some (V.ref a), some v, some (V.ref b), some (V.int tick), some (V.ref d), some (V.int (i : Int)), v6] H2 (dLet (ls.getD i ([], 0))) := fun {H2} e =>
        ed_ixn ((hvi.ex e).es (ev_var rfl)) (ev_var rfl) (map_at hi')
      refine q_asg (v := vOpt (ready W (ls.getD i ([], 0)) (rows.getD i []))) (ev_callP (eap_v (ev_var rfl) (eap_d (eL (Ex.refl _)) (eap_v (ev_ixL (ev_var rfl) hRi.at_ (ev_var rfl) hr3) eap_nil))) fun vs H2 e2 hp Q hQ => ?_) fun H2 e2 => ?_
      · obtain ⟨_, rfl, x, _, rfl, hx, _, rfl, rfl⟩ := hp
        exact ⟨a, r, x, W, _, _, rfl, hwi.ex e2, hx, e2 _ _ hr2, fit.le i hi', fit.way _ hl1, hQ⟩
      · have dw2 := dw.mono e2
        cases hrd : ready W (ls.getD i ([], 0)) (rows.getD i []) with
        | none =>
          refine s_when (b := false) (et_and (a := false) (b := true) (et_test (ev_is (ev_notN (ev_var rfl)) rfl)) (fun z => by cases z)) (fun z => by cases z) fun _ H3 e3 => ?_
          refine ⟨es, _, _, rfl, ?_, by omega⟩
          rw [nums_no (by unfold due; rw [hrd])]
          exact dw2.mono e3
        | some t =>
          refine s_when (b := decide (t ≤ tick)) (et_is (et_and (a := true) (b := decide (t ≤ tick)) (et_test (ev_is (ev_notN (ev_var rfl)) rfl)) (fun _ => et_test (ev_le (ev_var rfl) (ev_var rfl)))) (Bool.true_and _)) (fun ht H3 e3 => ?_) fun ht H3 e3 => ?_
          · have ht' : t ≤ tick := of_decide_eq_true ht
            have hlt := ready_lt hrd (fit.le i hi')
            have e13 := e2.trans e3
            have dw3 := dw.mono e13
            refine s_setdefApp (r := ((ls.getD i ([], 0)).1.getD (rows.getD i []).length 0 : Nat)) (n := i) (ev_var rfl) ?_ (fun H4 Q q => ⟨_, rfl, q⟩) dw3 (by omega) (Nat.le_trans (nums_len _ _ _ _ _ _) (by omega)) fun H4 es' dw4 hl4 => ?_
            · refine ev_road (ed_way (eL e13)) ?_ hlt
              have q := ev_lenM (K := K) (es_ints (ev_ixL (K := K) (ta := tVar 2) (tb := tVar 5) (σ := [some (V.ref a), some v, some (V.ref b), some (V.int tick), some (V.ref d), some (V.int (i : Int)), some (V.int t)]) (ev_var rfl) (hR.ex dw3.ex).at_ (ev_var rfl) hr3) (e13 _ _ hr2))
              exact q
            · refine ⟨es', _, _, rfl, ?_, by omega⟩
              rw [nums_yes (r0 := (ls.getD i ([], 0)).1.getD (rows.getD i []).length 0) (by unfold due; rw [hrd]; exact if_pos ht')]
              exact dw4
          · refine ⟨es, _, _, rfl, ?_, by omega⟩
            rw [nums_no (by unfold due; rw [hrd]; exact if_neg (of_decide_eq_false ht))]
            exact dw2.mono e3
    · obtain ⟨es, v5, v6, rfl, dw, hl⟩ := p
      have en : ((ls.length : Int)).toNat = ls.length := Int.toNat_natCast _
      rw [en] at dw hl
      exact s_ret (ev_var rfl) fun H2 e2 => k d H2 es (dw.mono e2) hl
end
end Z
/-! Df: _law_first, _law_padded. -/
namespace Z
open PySem PySem.Spec PyProof.Rows L2 Evl

def card0 : Card := ⟨[], 0, 0, []⟩
/-- the numbers and cards of those that come up to a tick -/
def seenAt (cs : List Card) (tick : Int) : List (Nat × Card) := ((List.range cs.length).filter fun n => decide ((cs.getD n card0).come ≤ tick)).map fun n => (n, cs.getD n card0)
def dSeen1 (p : Nat × Card) : PyData := .tuple [iN p.1, dCard p.2]
def spFirst : Sp := fun vs H Q _ => ∃ (v : V) (cs : List Card) (tick : Int), vs = [v, .int tick] ∧ Dt H (dCards cs) v ∧ cs.length ≤ 1000 ∧
  ∀ (p : Addr) (xs : List V) (H' : Hp), H p = none → Ex H H' → H' p = some (.lst xs) → DtA H' ((seenAt cs tick).map dSeen1) xs → Q (.ref p) H'
def dPadRow (way : List Nat) (row : List Int) : PyData := .tuple (row.map PyData.int ++ List.replicate (way.length - row.length) .none)
def dPadded (cs : List Card) (rows : List (List Int)) : PyData := .tuple ((List.range cs.length).map fun k => dPadRow (cs.getD k card0).way (rows.getD k []))
def spPadded : Sp := fun vs H Q _ => ∃ (v : V) (r : Addr) (xs : List V) (cs : List Card) (rows : List (List Int)), vs = [v, .ref r] ∧ Dt H (dCards cs) v ∧ H r = some (.lst xs) ∧ DtA H (rows.map dInts) xs ∧ cs.length ≤ 1000 ∧ rows.length = cs.length ∧
  (∀ k, k < cs.length → (rows.getD k []).length ≤ (cs.getD k card0).way.length ∧ (cs.getD k card0).way.length ≤ 100) ∧ ∀ (v' : V) (H' : Hp), Ex H H' → Dt H' (dPadded cs rows) v' → Q v' H'
section
variable {σ : L2.St} {H : Hp} {te tb ta : TE} {K : PySem.W.Frag} {ds es : List PyData} {d : PyData}
theorem ed_cway {c : Card} (h : ED te σ H (dCard c)) : ED (tOp (rIx K) te (tC (.int 0))) σ H (dWay c.way) := ed_ixn (j := 0) h.es ev_c rfl
theorem ev_ccome {c : Card} (h : ED te σ H (dCard c)) : Ev (tOp (rIx K) te (tC (.int 1))) σ H (.int c.come) := (ed_ixn (j := 1) h.es ev_c rfl).ev
theorem ev_chome {c : Card} (h : ED te σ H (dCard c)) : Ev (tOp (rIx K) te (tC (.int 2))) σ H (.int c.home) := (ed_ixn (j := 2) h.es ev_c rfl).ev
theorem ed_ctold {c : Card} (h : ED te σ H (dCard c)) : ED (tOp (rIx K) te (tC (.int 3))) σ H (.tuple (c.told.map dOpt)) := ed_ixn (j := 3) h.es ev_c rfl
/-- t + u -/
theorem ed_cat (ha : ED ta σ H (.tuple ds)) (hb : ED tb σ H (.tuple es)) (hl : ds.length + es.length ≤ 100000) : ED (tOp (rAddA K) ta tb) σ H (.tuple (ds ++ es)) := fun H1 e1 Q q =>
  ha H1 e1 _ fun v H2 e2 hd => hb H2 (e1.trans e2) _ fun v' H3 e3 hd' => by
    obtain ⟨a, xs, rfl, ha, hx⟩ := hd
    obtain ⟨b, ys, rfl, hb, hy⟩ := hd'
    have l1 := hx.len
    have l2 := hy.len
    refine .inr (.inl ⟨a, b, xs, ys, rfl, rfl, .inl (ex_rd e3 ha), .inl hb, by rw [sizeLine_eq]; omega, fun z => ?_, fun _ z => ?_, fun _ _ p hp => ?_⟩)
    · rw [z] at l1
      have : ds = [] := List.eq_nil_of_length_eq_zero (by simpa using l1.symm)
      subst this
      exact q _ H3 (e2.trans e3) ⟨b, ys, rfl, hb, hy⟩
    · rw [z] at l2
      have : es = [] := List.eq_nil_of_length_eq_zero (by simpa using l2.symm)
      subst this
      refine q _ H3 (e2.trans e3) ?_
      rw [List.append_nil]
      exact ⟨a, xs, rfl, ex_rd e3 ha, hx.ex e3⟩
    · exact q _ _ ((e2.trans e3).trans (Ex.new hp)) (dt_tup upd_same (((hx.ex e3).ex (Ex.new hp)).app (hy.ex (Ex.new hp))))
theorem dta_rep {H : Hp} {d : PyData} {v : V} (h : Dt H d v) : ∀ n : Nat, DtA H (List.replicate n d) (List.replicate n v)
  | 0 => rfl
  | n + 1 => ⟨v, List.replicate n v, rfl, h, dta_rep h n⟩
theorem ed_rep {n : Nat} (ha : ED ta σ H (.tuple [d])) (hb : Ev tb σ H (.int (n : Int))) (hn : n ≤ 1000) : ED (tOp (rMulA K) ta tb) σ H (.tuple (List.replicate n d)) := fun H1 e1 Q q =>
  ha H1 e1 _ fun v H2 e2 hd => hb H2 (e1.trans e2) _ fun H3 e3 => by
    obtain ⟨a, xs, rfl, ha, x, r, rfl, hx, hr⟩ := hd
    have hr : r = [] := hr
    subst hr
    refine .inr ⟨a, (n : Int), x, rfl, rfl, .inl (ex_rd e3 ha), by omega, by omega, fun z => ?_, fun z p hp => ?_⟩
    · have : n = 1 := by omega
      subst this
      exact q _ H3 (e2.trans e3) ⟨a, [x], rfl, ex_rd e3 ha, x, [], rfl, hx.ex e3, rfl⟩
    · rw [Int.toNat_natCast]
      exact q _ _ ((e2.trans e3).trans (Ex.new hp)) (dt_tup upd_same (dta_rep ((hx.ex e3).ex (Ex.new hp)) n))
end
abbrev s_l_first : Stmt := top 46
abbrev N_l_first : List Str := ["_law_cards_here", "_law_tick", "_law_number"]
theorem sc_l_first : FnScope N_l_first ["_law_cards_here", "_law_tick"] (defScope s_l_first) := ⟨rfl, rfl, rfl, by decide +kernel, rfl, by decide +kernel, by decide +kernel⟩
abbrev s_l_padded : Stmt := top 53
abbrev N_l_padded : List Str := ["_law_cards_here", "_law_rows", "_law_k"]
theorem sc_l_padded : FnScope N_l_padded ["_law_cards_here", "_law_rows"] (defScope s_l_padded) := ⟨rfl, rfl, rfl, by decide +kernel, rfl, by decide +kernel, by decide +kernel⟩
section
variable {P : Program} {w : World} {K : PySem.W.Frag} {mg : Str → Option Value} {base : Heap}
theorem ok_l_first {f : Addr} {fd : FuncData} (F : Fun K "_law_first" "_law_first" s_l_first f fd) (B : Bl mg) : FnOk P w K mg base CX0 1 f fd ["_law_cards_here", "_law_tick"] spFirst := by
  refine F.ok sc_l_first (fun vs H Q E h => ?_) (fun cdv A outer s H vs Q E hr h => ?_)
  · obtain ⟨v, cs, tick, rfl, _⟩ := h
    rfl
  · obtain ⟨v, cs, tick, rfl, hv, hz, k⟩ := h
    refine ⟨_, (pss_one (ps_ret (pe_lc (own := [("_law_number", 2)]) rfl sc_l_first.nd (pi_range1 (by rfl) B.range (pa_cons (pe_callB (kLen (K := K)) (by rfl) B.len b_len (pa_cons (pv 0) pa_nil)) pa_nil)) (blkOk_by (N := N_l_first) (sc := defScope s_l_first) (by decide +kernel)) (fun _ _ _ _ _ => (pg_name (i := 2) sc_l_first.nd rfl (.inl rfl))) (fun _ _ _ _ _ => (pts_one (pt_cmpR oLe (pe_ix (kIx (K := K)) (pe_ix (kIx (K := K)) (pv 0) (pv 2) (fun _ _ => rfl)) pe_int (fun _ _ => rfl)) (pv 1) (nomark _)))) (fun _ _ _ _ _ => (pe_tup (pa_cons (pv 2) (pa_cons (pe_ix (kIx (K := K)) (pv 0) (pv 2) (fun _ _ => rfl)) pa_nil))))))), ?_⟩
    refine s_retLD (eld_rng (fun n => decide ((cs.getD n card0).come ≤ tick)) (fun n => dSeen1 (n, cs.getD n card0)) (ea_cons (ev_lenM (f := dCard) (ED.es (ed_var rfl hv))) ea_nil) (by omega) fun i H1 hi e1 => ⟨rfl, ?_, fun _ => ?_⟩) fun p xs H1 hp e1 h1 h2 => ?_
    · exact et_test (ev_le (ev_ccome (ed_ixn (ED.es (ed_var rfl (hv.ex e1))) (ev_var rfl) (map_at hi))) (ev_var rfl))
    · exact ed_tup (ead_cons (edI (ev_var rfl)) (ead_cons (ed_ixn (ED.es (ed_var rfl (hv.ex e1))) (ev_var rfl) (map_at hi)) ead_nil)) (by show 2 ≤ 100000; decide)
    · refine k p xs H1 hp e1 h1 ?_
      unfold seenAt
      rw [List.map_map]
      exact h2
theorem ok_l_padded {f : Addr} {fd : FuncData} (F : Fun K "_law_padded" "_law_padded" s_l_padded f fd) (B : Bl mg) : FnOk P w K mg base CX0 1 f fd ["_law_cards_here", "_law_rows"] spPadded := by
  refine F.ok sc_l_padded (fun vs H Q E h => ?_) (fun cdv A outer s H vs Q E hr h => ?_)
  · obtain ⟨v, r, xs, cs, rows, rfl, _⟩ := h
    rfl
  · obtain ⟨v, r, xs, cs, rows, rfl, hv, hr1, hx, hz, hl, hk, k⟩ := h
    refine ⟨_, (pss_one (ps_ret (pe_callTy (kTup (K := K)) (by rfl) B.tuple b_tuple (pa_cons (pe_lc (own := [("_law_k", 2)]) rfl sc_l_padded.nd (pi_range1 (by rfl) B.range (pa_cons (pe_callB (kLen (K := K)) (by rfl) B.len b_len (pa_cons (pv 0) pa_nil)) pa_nil)) (blkOk_by (N := N_l_padded) (sc := defScope s_l_padded) (by decide +kernel)) (fun _ _ _ _ _ => (pg_name (i := 2) sc_l_padded.nd rfl (.inl rfl))) (fun _ _ _ _ _ => pts_nil) (fun _ _ _ _ _ => (pe_op (kAdd (K := K)) (pe_ix (kIx (K := K)) (pv 1) (pv 2) (fun _ _ => rfl)) (pe_op (kMul (K := K)) (pe_tup (pa_cons pe_non pa_nil)) (pe_op oSub (pe_callB (kLen (K := K)) (by rfl) B.len b_len (pa_cons (pe_ix (kIx (K := K)) (pe_ix (kIx (K := K)) (pv 0) (pv 2) (fun _ _ => rfl)) pe_int (fun _ _ => rfl)) pa_nil)) (pe_callB (kLen (K := K)) (by rfl) B.len b_len (pa_cons (pe_ix (kIx (K := K)) (pv 1) (pv 2) (fun _ _ => rfl)) pa_nil))))))) pa_nil)))), ?_⟩
    refine s_retD (ED.is (ed_tupleOf (ELD.es (eld_rng (fun _ => true) (fun n => dPadRow (cs.getD n card0).way (rows.getD n [])) (ea_cons (ev_lenM (f := dCard) (ED.es (ed_var rfl hv))) ea_nil) (by omega) fun i H1 hi e1 => ⟨rfl, fun _ _ _ q => q _ (Ex.refl _), fun _ => ?_⟩))) ?_) k
    · have hC : ED (tOp (rIx K) (tVar 0) (tVar 2)) [some v, some (V.ref r), some (V.int (i : Int))] H1 (dCard (cs.getD i card0)) := ed_ixn (ED.es (ed_var rfl (hv.ex e1))) (ev_var rfl) (map_at hi)
      have hR : ED (tOp (rIx K) (tVar 1) (tVar 2)) [some v, some (V.ref r), some (V.int (i : Int))] H1 (dInts (rows.getD i [])) := ed_ixn (es_list (ev_var rfl) (e1 _ _ hr1) (hx.ex e1)) (ev_var rfl) (map_at (by rw [hl]; exact hi))
      obtain ⟨q1, q2⟩ := hk i hi
      refine ed_cat hR (ed_rep (ed_tup (ead_cons (edN ev_c) ead_nil) (by decide)) (ev_isI (ev_sub (ev_lenM (ed_cway hC).es) (ev_lenM hR.es)) (by omega)) (by omega)) ?_
      rw [List.length_map, List.length_replicate]
      omega
    · unfold dPadded
      rw [List.filter_eq_self.mpr (fun _ _ => rfl)]
end
end Z
/-! Zq: sorted of data. -/
namespace Z
open PySem PySem.Spec PyProof.Rows L2 Evl

/-- the order in which sorted puts data -/
abbrev leD : PyData → PyData → Bool := PySem.W.dataLe false fun d : PyData => d
def rSortD (K : PySem.W.Frag) : List V → Hp → VK → Prop := fun xs H Q => ∃ (p : Addr) (vs : List V) (ds : List PyData), xs = [.ref p] ∧ SqL K H p vs ∧ DtA H ds vs ∧ PySem.W.AllAlike ds ∧ PySem.W.Sortable ds ∧ (∀ d ∈ ds, d.depth ≤ 8) ∧
  ∀ out l, H l = none → out.length = ds.length → DtA H (ds.mergeSort leD) out → Q (.ref l) (upd H l (.lst out))
theorem each_of {X : Cx} {pins : List (Addr × Obj)} {σ : L2.St} {H : Hp} {s : Shared} (I : L2.Inv X pins σ H s) : ∀ {ds : List PyData} {vs : List V} {us : List Value}, DtA H ds vs → Vals vs us →
    PySem.W.EachIs (fun (u : Value) (d : PyData) => (∃ v, RelV v u ∧ Dt H d v) ∧ ∃ as, Reads s.heap u d as) us ds
  | [], _, _, h, r => by
    have h : _ = [] := h
    subst h
    cases r
    exact .nil
  | d :: ds, _, _, ⟨v, vr, e, hv, hr⟩, r => by
    subst e
    cases r with
    | cons a b => exact .cons ⟨⟨v, a, hv⟩, Dp.reads I d v _ (dt_dp d v hv) a⟩ (each_of I hr b)
theorem each_back {H : Hp} : ∀ {us : List Value} {ds : List PyData}, PySem.W.EachIs (fun (u : Value) (d : PyData) => ∃ v, RelV v u ∧ Dt H d v) us ds → ∃ vs, Vals vs us ∧ DtA H ds vs
  | _, _, .nil => ⟨[], .nil, rfl⟩
  | _, _, .cons ⟨v, h1, h2⟩ t => by
    obtain ⟨vs, h3, h4⟩ := each_back t
    exact ⟨v :: vs, .cons h1 h3, v, vs, rfl, h2, h4⟩
theorem cr_sortD {X : Cx} (hu : X.A.units + 64 < cLine) : CallR X (.builtin "sorted") (rSortD X.K) := by
  intro pins s σ H xs us Q I r h
  obtain ⟨p, vs, ds, rfl, hs, hd, al, so, dep, q⟩ := h
  obtain ⟨its, rv, pl, hz⟩ := I.list hs
  obtain ⟨u, rfl, ru⟩ := Vals.one r
  cases ru
  have e := each_of I hd rv
  have hl := rv.length
  have hdl := hd.len
  refine PySem.W.sorted_data (enc := fun d : PyData => d) (bs := ds) (R := fun (u : Value) (d : PyData) => ∃ v, RelV v u ∧ Dt H d v) pl.isList (e.mono fun _ _ z => z.1) (e.mono fun _ _ z => z.2) (by rw [List.map_id']; exact al) (by rw [List.map_id']; exact so) (by rw [sizeLine_eq] at hz ⊢; omega)
    (fun d hdm => by have := dep d hdm; omega) fun out ho eo => ?_
  obtain ⟨ws, w1, w2⟩ := each_back eo
  obtain ⟨c, hc⟩ := sortedAll_at s.heap its out.toArray
  have hwl := w1.length
  refine ⟨.ref (s.heap.objs.size + 1), upd H (s.heap.objs.size + 1) (.lst ws), I.laid (t' := s.toks) (fun b o hb => sortedAll_old hb) (Nat.le_succ _) ⟨?_, out, c, w1, hc⟩, rfl, q ws _ (I.hok.fresh (Nat.le_succ _)) (by omega) w2⟩
  omega
theorem kSortD {X : Cx} {K : PySem.W.Frag} (hu : X.A.units + 64 < cLine) (hK : X.K = K := by rfl) : CallR X (.builtin "sorted") (rSortD K) := hK ▸ cr_sortD hu

section
variable {K : PySem.W.Frag} {σ : L2.St} {H : Hp} {ta : TE} {β : Type}
/-- sorted(xs), a list of data -/
theorem eld_sorted {bs : List β} {enc : β → PyData} (hs : ELD ta σ H (bs.map enc)) (al : PySem.W.AllAlike (bs.map enc)) (so : PySem.W.Sortable (bs.map enc)) (hd : ∀ b ∈ bs, (enc b).depth ≤ 8) :
    ELD (tCB (rSortD K) (tCons ta tNil)) σ H ((bs.mergeSort (PySem.W.dataLe false enc)).map enc) := fun H1 e1 Q q =>
  hs H1 e1 _ fun p vs H2 hp e2 h2 hx => by
    refine ⟨p, vs, bs.map enc, rfl, SqL.of h2, hx, al, so, fun d hdm => ?_, fun out l hl _ ho => ?_⟩
    · obtain ⟨b, hb, rfl⟩ := List.mem_map.mp hdm
      exact hd b hb
    · have e : (bs.map enc).mergeSort leD = (bs.mergeSort (PySem.W.dataLe false enc)).map enc := (List.map_mergeSort (r := PySem.W.dataLe false enc) (s := leD) (f := enc) fun a _ b _ => rfl).symm
      rw [e] at ho
      exact q l out _ (fresh_back e2 hl) (e2.trans (Ex.new hl)) upd_same (ho.ex (Ex.new hl))
theorem eld_sorted' {bs : List β} {enc : β → PyData} {a : Addr} {vs : List V} (hv : Ev ta σ H (.ref a)) (ha : H a = some (.lst vs)) (hx0 : DtA H (bs.map enc) vs) (al : PySem.W.AllAlike (bs.map enc)) (so : PySem.W.Sortable (bs.map enc)) (hd : ∀ b ∈ bs, (enc b).depth ≤ 8) :
    ELD (tCB (rSortD K) (tCons ta tNil)) σ H ((bs.mergeSort (PySem.W.dataLe false enc)).map enc) := fun H1 e1 Q q =>
  hv H1 e1 _ fun H2 e2 => by
    refine ⟨a, vs, bs.map enc, rfl, SqL.of (e2 _ _ (e1 _ _ ha)), hx0.ex (e1.trans e2), al, so, fun d hdm => ?_, fun out l hl _ ho => ?_⟩
    · obtain ⟨b, hb, rfl⟩ := List.mem_map.mp hdm
      exact hd b hb
    · have e : (bs.map enc).mergeSort leD = (bs.mergeSort (PySem.W.dataLe false enc)).map enc := (List.map_mergeSort (r := PySem.W.dataLe false enc) (s := leD) (f := enc) fun a _ b _ => rfl).symm
      rw [e] at ho
      exact q l out _ (fresh_back e2 hl) (e2.trans (Ex.new hl)) upd_same (ho.ex (Ex.new hl))
end
/-- tuples of whole numbers, one at least in each -/
theorem al_tups {β : Type} {bs : List β} (f : β → List Int) : PySem.W.AllAlike (bs.map fun b => PyData.tuple ((f b).map .int)) := .of fun b b' => by
  rw [PySem.W.alike]
  exact PySem.W.alike_ints _ _
theorem so_tups {β : Type} {bs : List β} (f : β → List Int) (h : ∀ b, f b ≠ []) : PySem.W.Sortable (bs.map fun b => PyData.tuple ((f b).map .int)) := .tuples fun b => by
  cases e : f b with
  | nil => exact absurd e (h b)
  | cons x r => exact ⟨.int x, r.map .int, rfl⟩
theorem de_tup (f : List Int) : (PyData.tuple (f.map .int)).depth ≤ 8 := by
  rw [PyData.depth, PySem.W.depth_ints]
  decide
/-- upwards, whole numbers -/
abbrev sortI (ns : List Int) : List Int := ns.mergeSort (PySem.W.dataLe false PyData.int)
theorem al_ints {ns : List Int} : PySem.W.AllAlike (ns.map PyData.int) := .of fun b b' => rfl
theorem so_ints {ns : List Int} : PySem.W.Sortable (ns.map PyData.int) := .others fun b => ⟨fun z => (by cases z), fun _ z => (by cases z)⟩
theorem sortI_perm (ns : List Int) : (sortI ns).Perm ns := List.mergeSort_perm ns _
theorem sortI_le (ns : List Int) : (sortI ns).Pairwise (· ≤ ·) := by
  have e : PySem.W.dataLe false PyData.int = fun a b => decide (a ≤ b) := PySem.W.dataLe_int (fun a : Int => a)
  unfold sortI
  rw [e]
  have h := List.pairwise_mergeSort (le := fun a b : Int => decide (a ≤ b)) (fun a b c h1 h2 => by
    have := of_decide_eq_true h1
    have := of_decide_eq_true h2
    exact decide_eq_true (by omega)) (fun a b => by
      rcases Int.le_total a b with h | h <;> simp [h]) ns
  exact h.imp fun z => of_decide_eq_true z
theorem sortI_is {ns ms : List Int} (hp : ns.Perm ms) (hs : ms.Pairwise (· ≤ ·)) : sortI ns = ms :=
  ((sortI_perm ns).trans hp).eq_of_pairwise (le := (· ≤ ·)) (fun a b _ _ h1 h2 => Int.le_antisymm h1 h2) (sortI_le ns) hs
end Z
/-! Zp: what _law_picked picks; cards by number; cuts. -/
namespace Z
open PySem PySem.Spec PyProof.Rows L2 Evl

/-! ### data that == can tell apart -/
def Lay (n : Nat) (d : PyData) : Prop := d.canLay0 = true ∧ d.depth ≤ n
theorem lay_all {n : Nat} : ∀ {ds : List PyData}, (∀ d ∈ ds, Lay n d) → PyData.canLayAll0 ds = true ∧ PyData.depthAll ds ≤ n
  | [], _ => ⟨by simp [PyData.canLayAll0], by simp [PyData.depthAll]⟩
  | d :: ds, h => by
    obtain ⟨a, b⟩ := h d (List.mem_cons_self ..)
    obtain ⟨a2, b2⟩ := lay_all (ds := ds) fun x hx => h x (List.mem_cons_of_mem _ hx)
    exact ⟨by simp [PyData.canLayAll0, a, a2], by simp [PyData.depthAll]; omega⟩
theorem lay_tup {n : Nat} {ds : List PyData} (h : ∀ d ∈ ds, Lay n d) : Lay (n + 1) (.tuple ds) := by
  obtain ⟨a, b⟩ := lay_all h
  exact ⟨by simp [PyData.canLay0, a], by simp [PyData.depth]; omega⟩
theorem lay_list {n : Nat} {ds : List PyData} (h : ∀ d ∈ ds, Lay n d) : Lay (n + 1) (.list ds) := by
  obtain ⟨a, b⟩ := lay_all h
  exact ⟨by simp [PyData.canLay0, a], by simp [PyData.depth]; omega⟩
theorem Lay.le {n m : Nat} {d : PyData} (h : Lay n d) (e : n ≤ m) : Lay m d := ⟨h.1, Nat.le_trans h.2 e⟩
theorem lay_int (i : Int) (n : Nat) : Lay n (.int i) := ⟨by simp [PyData.canLay0], by simp [PyData.depth]⟩
theorem lay_none (n : Nat) : Lay n .none := ⟨by simp [PyData.canLay0], by simp [PyData.depth]⟩
theorem Lay.shaped {n : Nat} {d : PyData} (h : Lay n d) (e : n ≤ 64 := by decide) : SeqAt.shaped d = true := by
  unfold SeqAt.shaped
  rw [h.1]
  exact decide_eq_true (Nat.le_trans h.2 e)
theorem lay_way (w : List Nat) : Lay 1 (dWay w) := lay_tup fun d hd => by
  obtain ⟨x, _, rfl⟩ := List.mem_map.mp hd
  exact lay_int _ _
theorem lay_ints (w : List Int) : Lay 1 (dInts w) := lay_tup fun d hd => by
  obtain ⟨x, _, rfl⟩ := List.mem_map.mp hd
  exact lay_int _ _
theorem lay_card (c : Card) : Lay 2 (dCard c) := lay_tup fun d hd => by
  simp only [List.mem_cons, List.not_mem_nil, or_false] at hd
  rcases hd with rfl | rfl | rfl | rfl
  · exact lay_way _
  · exact lay_int _ _
  · exact lay_int _ _
  · refine lay_tup fun d hd => ?_
    obtain ⟨x, _, rfl⟩ := List.mem_map.mp hd
    cases x with
    | none => exact lay_none _
    | some i => exact lay_int _ _

/-! ### cuts -/
theorem cut_to (xs : List V) (k : Nat) : cutV xs none (some (k : Int)) = xs.take k := by
  unfold cutV
  rw [HT.sIx_none, HT.sIx_nat, List.drop_zero, Nat.sub_zero, Nat.min_comm]
  refine List.take_eq_take_iff.mpr ?_
  omega
section
variable {K : PySem.W.Frag} {σ : L2.St} {H : Hp} {ta tb te tc : TE} {th : TO} {ds : List PyData}
/-- xs[:k] of a new list -/
theorem eld_cut {k : Nat} (h : ELD te σ H ds) (hk : EvO th σ H (some (k : Int))) : ELD (tSl (rSlAny K) te tNoPart th) σ H (ds.take k) := fun H1 e1 Q q =>
  h H1 e1 _ fun p vs H2 hp e2 h2 hx => hk H2 (e1.trans e2) _ fun H3 e3 => .inl ⟨p, vs, rfl, SqL.of (e3 _ _ h2), fun l hl => q l (vs.take k) _ (fresh_back (e2.trans e3) hl) ((e2.trans e3).trans (Ex.new hl)) (by rw [cut_to]; exact upd_same) (((hx.ex e3).ex (Ex.new hl)).take k)⟩
theorem eld_cutV {k : Nat} {a : Addr} {vs : List V} (hv : Ev te σ H (.ref a)) (ha : H a = some (.lst vs)) (hx : DtA H ds vs) (hk : EvO th σ H (some (k : Int))) : ELD (tSl (rSlAny K) te tNoPart th) σ H (ds.take k) := fun H1 e1 Q q =>
  hv H1 e1 _ fun H2 e2 => hk H2 (e1.trans e2) _ fun H3 e3 => .inl ⟨a, vs, rfl, SqL.of (e3 _ _ (e2 _ _ (e1 _ _ ha))), fun l hl => q l (vs.take k) _ (fresh_back (e2.trans e3) hl) ((e2.trans e3).trans (Ex.new hl)) (by rw [cut_to]; exact upd_same) (((((hx.ex e1).ex e2).ex e3).ex (Ex.new hl)).take k)⟩
/-- t[:k] of a tuple -/
theorem ed_cut {k : Nat} (h : ED te σ H (.tuple ds)) (hk : EvO th σ H (some (k : Int))) : ED (tSl (rSlAny K) te tNoPart th) σ H (.tuple (ds.take k)) := fun H1 e1 Q q =>
  h H1 e1 _ fun v H2 e2 hd => hk H2 (e1.trans e2) _ fun H3 e3 => by
    obtain ⟨a, xs, rfl, ha, hx⟩ := hd
    refine .inr ⟨a, xs, rfl, .inl (ex_rd e3 ha), fun ⟨_, z⟩ => ?_, fun _ p hp => ?_⟩
    · rw [HT.sIx_nat] at z
      have hl := hx.len
      have et : ds.take k = ds := List.take_of_length_le (by omega)
      rw [et] at q
      exact q _ H3 (e2.trans e3) ⟨a, xs, rfl, ex_rd e3 ha, hx.ex e3⟩
    · rw [cut_to]
      exact q _ _ ((e2.trans e3).trans (Ex.new hp)) (dt_tup upd_same (((hx.ex e3).ex (Ex.new hp)).take k))
/-- a == b == c, of whole numbers -/
theorem ev_chainI {i j k : Int} (ha : Ev ta σ H (.int i)) (hb : Ev tb σ H (.int j)) (hc : Ev tc σ H (.int k)) : Ev (tChain (rEqA K) (rEqA K) ta tb tc) σ H (.bl (decide (i = j) && decide (j = k))) := fun H1 e1 Q q =>
  ha H1 e1 _ fun H2 e2 => hb H2 (e1.trans e2) _ fun H3 e3 => .inl ⟨rfl, by
    have e : decide (V.int i = V.int j) = decide (i = j) := by simp
    rw [e]
    refine ⟨_, rfl, ?_⟩
    by_cases h : i = j
    · rw [if_pos (decide_eq_true h)]
      refine hc H3 ((e1.trans e2).trans e3) _ fun H4 e4 => .inl ⟨rfl, ?_⟩
      have e : decide (V.int j = V.int k) = decide (j = k) := by simp
      rw [e]
      have q := q H4 ((e2.trans e3).trans e4)
      rw [decide_eq_true h, Bool.true_and] at q
      exact q
    · rw [if_neg (by simpa using h)]
      have q := q H3 (e2.trans e3)
      rw [decide_eq_false h, Bool.false_and] at q
      exact q⟩
end

/-! ### a dict of cards by number -/
theorem merge_new {κ : Type} [DecidableEq κ] : ∀ (kvs acc : List (L2.Key × V)), (kvs.map (·.1)).Nodup → (∀ kv ∈ kvs, valV acc kv.1 = none) → mergeK acc kvs = acc ++ kvs
  | [], acc, _, _ => (List.append_nil _).symm
  | kv :: r, acc, nd, h => by
    have nd' := List.nodup_cons.mp nd
    show mergeK (putK acc kv.1 kv.2) r = _
    have hn := h kv (List.mem_cons_self ..)
    rw [putK_new kv.2 hn, merge_new (κ := κ) r _ nd'.2 fun x hx => ?_]
    · simp
    · rw [valV_snoc kv.1 x.1 kv.2 acc hn, if_neg, h x (List.mem_cons_of_mem _ hx)]
      intro z
      exact nd'.1 (List.mem_map.mpr ⟨x, hx, z⟩)
theorem val_mem {k : L2.Key} {v : V} : ∀ {kvs : List (L2.Key × V)}, (kvs.map (·.1)).Nodup → (k, v) ∈ kvs → valV kvs k = some v
  | [], _, h => by simp at h
  | kv :: r, nd, h => by
    have nd' := List.nodup_cons.mp nd
    rcases List.mem_cons.mp h with rfl | h
    · exact valV_pos rfl
    · rw [valV_neg fun z => nd'.1 (List.mem_map.mpr ⟨_, h, z.symm⟩)]
      exact val_mem nd'.2 h
theorem dic_of {K : PySem.W.Frag} {H : Hp} : ∀ {seen : List (Nat × Card)} {ys : List V}, DtA H (seen.map dSeen1) ys → ∃ kvs : List (L2.Key × V), Paired (PairV K H) ys kvs ∧ kvs.map (·.1) = seen.map (fun p => (.inl (p.1 : Int) : L2.Key)) ∧
    ∀ p ∈ seen, ∃ v, ((.inl (p.1 : Int) : L2.Key), v) ∈ kvs ∧ Dt H (dCard p.2) v
  | [], _, h => ⟨[], by rw [show _ = [] from h]; exact .nil, rfl, fun _ hp => by simp at hp⟩
  | p :: r, _, ⟨v, vr, e, hv, hr⟩ => by
    obtain ⟨kvs, h1, h2, h3⟩ := dic_of (K := K) hr
    obtain ⟨a, xs, rfl, ha, x1, r1, rfl, hx1, x2, r2, rfl, hx2, r3⟩ := hv
    have r3 : r2 = [] := r3
    subst r3
    have hx1 : x1 = .int (p.1 : Int) := hx1
    subst hx1
    refine ⟨(.inl (p.1 : Int), x2) :: kvs, by rw [e]; exact .cons ⟨a, rfl, .inl ha⟩ h1, by rw [List.map_cons, List.map_cons, h2], fun q hq => ?_⟩
    rcases List.mem_cons.mp hq with rfl | hq
    · exact ⟨x2, List.mem_cons_self .., hx2⟩
    · obtain ⟨v, a, b⟩ := h3 q hq
      exact ⟨v, List.mem_cons_of_mem _ a, b⟩
def keyC (seen : List (Nat × Card)) (n : Nat) : Card := ((seen.find? fun p => decide (p.1 = n)).map (·.2)).getD card0
theorem keyC_mem {seen : List (Nat × Card)} {n : Nat} (h : n ∈ seen.map (·.1)) : (n, keyC seen n) ∈ seen := by
  unfold keyC
  cases e : seen.find? fun p => decide (p.1 = n) with
  | none =>
    obtain ⟨p, hp, rfl⟩ := List.mem_map.mp h
    have := List.find?_eq_none.mp e p hp
    simp at this
  | some p =>
    have h1 := List.mem_of_find?_eq_some e
    have h2 := List.find?_some e
    have h2 : p.1 = n := by simpa using h2
    obtain ⟨a, c⟩ := p
    have h2 : a = n := h2
    subst h2
    exact h1
/-- the dict of the cards, as it stands -/
structure CardsK (H : Hp) (p : Addr) (seen : List (Nat × Card)) : Prop where
  ex : ∃ kvs : List (L2.Key × V), H p = some (.dK kvs) ∧ kvs.length = seen.length ∧ ∀ n : Nat, n ∈ seen.map (·.1) → ∃ v, valV kvs (.inl (n : Int)) = some v ∧ Dt H (dCard (keyC seen n)) v
theorem CardsK.mono {H H' : Hp} {p : Addr} {seen : List (Nat × Card)} (h : CardsK H p seen) (e : Ex H H') : CardsK H' p seen := by
  obtain ⟨kvs, h1, h2, h3⟩ := h.ex
  exact ⟨kvs, e _ _ h1, h2, fun n hn => by
    obtain ⟨v, a, b⟩ := h3 n hn
    exact ⟨v, a, b.ex e⟩⟩
section
variable {K : PySem.W.Frag} {σ : L2.St} {H : Hp} {ta tb te tc : TE} {p : Addr} {seen : List (Nat × Card)}
/-- card[number] -/
theorem ed_card {n : Nat} (h : CardsK H p seen) (hn : n ∈ seen.map (·.1)) (ha : Ev ta σ H (.ref p)) (hb : Ev tb σ H (.int (n : Int))) : ED (tDGet ta tb) σ H (dCard (keyC seen n)) := fun H1 e1 Q q =>
  ha H1 e1 _ fun H2 e2 => hb H2 (e1.trans e2) _ fun H3 e3 => by
    obtain ⟨kvs, h1, h2, h3⟩ := (h.mono ((e1.trans e2).trans e3)).ex
    obtain ⟨v, a, b⟩ := h3 n hn
    exact ⟨p, v, rfl, .inl ⟨kvs, .inl (n : Int), .inl h1, rfl, a.symm⟩, q v H3 (e2.trans e3) b⟩
end

/-! ### what is picked -/
def rankOf (kind salt road tick : Int) (seen : List (Nat × Card)) (past : List Pass) (n : Nat) : Int :=
  if kind = 1 then 0 else if kind = 2 then -(keyC seen n).home else if kind = 3 then ((n : Int) * 7919 + tick * 104729 + road * 31 + salt) % 101
  else if kind = 4 then (keyC seen n).home else if kind = 5 then -(((keyC seen n).way.length : Nat) : Int) else if kind = 6 then -(((past.filter fun z => decide (z.2.2 = n)).length : Nat) : Int)
  else if kind = 7 then (keyC seen n).home else if kind = 8 then (keyC seen n).home else if kind = 9 then ((n : Int) + tick) % (if ((seen.length : Nat) : Int) > 1 then ((seen.length : Nat) : Int) else 1)
  else (keyC seen n).home
def soon (road : Nat) (tick : Int) (p : Nat × Card) : Bool := (decide (p.2.come = tick + 1) && decide (tick + 1 = p.2.home)) && PyData.eqv (dWay p.2.way) (dWay [road])
def manyOf (kind salt : Int) (W : Web) (road : Nat) (tick : Int) (seen : List (Nat × Card)) : Int :=
  if kind = 4 then W.rooms.getD road 0 * ((tick + road + salt) % 2) else if kind = 7 then W.rooms.getD road 0 - (((seen.filter (soon road tick)).length : Nat) : Int) else if kind = 8 then 0 else W.rooms.getD road 0
def encO (p : Int × Nat) : PyData := .tuple [.int p.1, iN p.2]
def upTo (m : Int) : Nat := (if m > 0 then m else 0).toNat
def pick (kind salt : Int) (W : Web) (road : Nat) (tick : Int) (waiting : List Nat) (seen : List (Nat × Card)) (past : List Pass) : List Nat :=
  (((waiting.map fun n => (rankOf kind salt road tick seen past n, n)).mergeSort (PySem.W.dataLe false encO)).map (·.2)).take (upTo (manyOf kind salt W road tick seen))
theorem pick_perm (kind salt : Int) (W : Web) (road : Nat) (tick : Int) (waiting : List Nat) (seen : List (Nat × Card)) (past : List Pass) :
    ((((waiting.map fun n => (rankOf kind salt road tick seen past n, n)).mergeSort (PySem.W.dataLe false encO)).map (·.2))).Perm waiting := by
  have h := (List.mergeSort_perm (waiting.map fun n => (rankOf kind salt road tick seen past n, n)) (PySem.W.dataLe false encO)).map (·.2)
  rw [List.map_map] at h
  have e : List.map ((fun x : Int × Nat => x.2) ∘ fun n => (rankOf kind salt road tick seen past n, n)) waiting = waiting := List.map_id' waiting
  rw [e] at h
  exact h
theorem pick_mem {kind salt : Int} {W : Web} {road : Nat} {tick : Int} {waiting : List Nat} {seen : List (Nat × Card)} {past : List Pass} {n : Nat} (h : n ∈ pick kind salt W road tick waiting seen past) : n ∈ waiting :=
  (pick_perm kind salt W road tick waiting seen past).mem_iff.mp (List.mem_of_mem_take h)
theorem pick_nodup {kind salt : Int} {W : Web} {road : Nat} {tick : Int} {waiting : List Nat} {seen : List (Nat × Card)} {past : List Pass} (h : waiting.Nodup) : (pick kind salt W road tick waiting seen past).Nodup :=
  ((pick_perm kind salt W road tick waiting seen past).nodup_iff.mpr h).sublist (List.take_sublist _ _)
theorem many_le {kind salt : Int} {W : Web} {road : Nat} {tick : Int} {seen : List (Nat × Card)} (h : 0 ≤ W.rooms.getD road 0) : manyOf kind salt W road tick seen ≤ W.rooms.getD road 0 := by
  unfold manyOf
  split
  · have h1 := Int.emod_nonneg (tick + road + salt) (b := 2) (by decide)
    have h2 := Int.emod_lt_of_pos (tick + road + salt) (b := 2) (by decide)
    rcases (by omega : (tick + road + salt) % 2 = 0 ∨ (tick + road + salt) % 2 = 1) with e | e <;> rw [e] <;> omega
  · split
    · omega
    · split <;> omega
theorem pick_len {kind salt : Int} {W : Web} {road : Nat} {tick : Int} {waiting : List Nat} {seen : List (Nat × Card)} {past : List Pass} (h : 0 ≤ W.rooms.getD road 0) : ((pick kind salt W road tick waiting seen past).length : Int) ≤ W.rooms.getD road 0 := by
  have h1 := many_le (kind := kind) (salt := salt) (tick := tick) (seen := seen) h
  have h2 : (pick kind salt W road tick waiting seen past).length ≤ upTo (manyOf kind salt W road tick seen) := List.length_take_le _ _
  unfold upTo at h2
  split at h2 <;> omega
end Z
/-! Dg: _law_picked. -/
namespace Z
open PySem PySem.Spec PyProof.Rows L2 Evl

def SeenIs (H : Hp) (v : V) (seen : List (Nat × Card)) : Prop := ∃ ys, PlainT H v ys ∧ DtA H (seen.map dSeen1) ys
theorem SeenIs.dt {H : Hp} {v : V} {seen : List (Nat × Card)} (h : SeenIs H v seen) : Dt H (.tuple (seen.map dSeen1)) v := by
  obtain ⟨ys, ⟨a, o, rfl, h1, h2⟩, h3⟩ := h
  exact ⟨a, ys, rfl, .inr ⟨o, h1⟩, h3⟩
theorem SeenIs.ex {H H' : Hp} {v : V} {seen : List (Nat × Card)} (h : SeenIs H v seen) (e : Ex H H') : SeenIs H' v seen := by
  obtain ⟨ys, ⟨a, o, rfl, h1, h2⟩, h3⟩ := h
  exact ⟨ys, ⟨a, o, rfl, e _ _ h1, h2⟩, h3.ex e⟩
def dPast (past : List Pass) : PyData := .tuple (past.map dPass)
structure Asked where
  road : Nat
  tick : Int
  waiting : List Nat
  seen : List (Nat × Card)
  past : List Pass
structure AskOk (W : Web) (q : Asked) : Prop where
  road : q.road < W.roads.length
  nd : (q.seen.map (·.1)).Nodup
  sub : ∀ n ∈ q.waiting, n ∈ q.seen.map (·.1)
  wl : q.waiting.length ≤ 1000
  sl : q.seen.length ≤ 1000
  pl : q.past.length ≤ 20000
structure AskAt (H : Hp) (q : Asked) (wv sv zv : V) : Prop where
  w : Dt H (dWay q.waiting) wv
  s : SeenIs H sv q.seen
  p : Dt H (dPast q.past) zv
theorem AskAt.ex {H H' : Hp} {q : Asked} {wv sv zv : V} (h : AskAt H q wv sv zv) (e : Ex H H') : AskAt H' q wv sv zv := ⟨h.w.ex e, h.s.ex e, h.p.ex e⟩
def picks (kind salt : Int) (W : Web) (q : Asked) : List Nat := pick kind salt W q.road q.tick q.waiting q.seen q.past
def spPicked : Sp := fun vs H Q _ => ∃ (a : Addr) (kind salt : Int) (W : Web) (q : Asked) (wv sv zv : V),
  vs = [.int kind, .int salt, .ref a, .int (q.road : Int), .int q.tick, wv, sv, zv] ∧ WebAt H a W ∧ WebOk W ∧ AskOk W q ∧ AskAt H q wv sv zv ∧
  ∀ (f : Bool) (b : Addr) (xs : List V) (H' : Hp), Ex H H' → Sq0 f H' b xs → DtA H' ((picks kind salt W q).map iN) xs → Q (.ref b) H'
section
variable {K : PySem.W.Frag} {σ : L2.St} {H : Hp} {te tl ta : TE} {g : TG}
/-- a comprehension without a condition -/
theorem eld_all {α : Type} {tt : TT} {vs : List Nat} (l : List α) (enc out : α → PyData) (hs : ES tl σ H (l.map enc)) (hm : Mono g) (hn : l.length ≤ 50000)
    (turn : ∀ x v H', x ∈ l → Ex H H' → Dt H' (enc x) v → g v (wipe σ vs) H' fun σ2 H5 => Ex H' H5 ∧ wipe σ2 vs = wipe σ vs ∧ EvT tt σ2 H5 true ∧ ED te σ2 H5 (out x)) :
    ELD (tLc (iSq K tl) g tt te vs) σ H (l.map out) := by
  refine ELD.is (eld_over l enc (fun _ => true) out hs hm hn fun x v H' hx e hd => hm _ _ _ _ _ (fun σ2 H5 ⟨a, b, c, d⟩ => ⟨a, b, c, fun _ => d⟩) (turn x v H' hx e hd)) ?_
  rw [List.filter_eq_self.mpr (fun _ _ => rfl)]
theorem et_yes : EvT (fun _ H Q => Q true H) σ H true := fun _ _ _ q => q _ (Ex.refl _)
/-- a turn that takes a tuple apart -/
theorem g_tup {n : Nat} {gs : TGs} {ds : List PyData} {v : V} {k : L2.St → Hp → Prop} (hd : Dt H (.tuple ds) v) (hn : ds.length = n) (h : ∀ xs, DtA H ds xs → gs xs σ H k) : gTup K n gs v σ H k := by
  obtain ⟨a, xs, rfl, ha, hx⟩ := hd
  exact ⟨a, xs, rfl, .inl ha, by rw [hx.len, hn], h xs hx⟩
end
abbrev s_l_picked : Stmt := top 47
abbrev N_l_picked : List Str := ["_law_kind", "_law_salt", "_law_web_here", "_law_road", "_law_tick", "_law_waiting", "_law_seen", "_law_past", "_law_card", "_law_many", "_law_order", "_law_found", "_law_number", "_law_rank", "_law_each", "_law_when", "_law_where", "_law_who"]
theorem sc_l_picked : FnScope N_l_picked ["_law_kind", "_law_salt", "_law_web_here", "_law_road", "_law_tick", "_law_waiting", "_law_seen", "_law_past"] (defScope s_l_picked) := ⟨rfl, rfl, rfl, by decide +kernel, rfl, by decide +kernel, by decide +kernel⟩
section
variable {P : Program} {w : World} {K : PySem.W.Frag} {mg : Str → Option Value} {base : Heap}
theorem ok_l_picked {f : Addr} {fd : FuncData} (F : Fun K "_law_picked" "_law_picked" s_l_picked f fd) (B : Bl mg) : FnOk P w K mg base CX0 1 f fd ["_law_kind", "_law_salt", "_law_web_here", "_law_road", "_law_tick", "_law_waiting", "_law_seen", "_law_past"] spPicked := by
  refine F.ok sc_l_picked (fun vs H Q E h => ?_) (fun cdv A outer s H vs Q E hr h => ?_)
  · obtain ⟨a, kind, salt, W, q, wv, sv, zv, rfl, _⟩ := h
    rfl
  · obtain ⟨a, kind, salt, W, q, wv, sv, zv, rfl, hW, wok, qok, hq, k⟩ := h
    have hu64 := hr.units
    have hu := hu_of hr
    refine ⟨_, (pss_cons (ps_set (i := 8) sc_l_picked.nd rfl (.inr rfl) (pe_callTy (kDict (K := K)) (by rfl) B.dict b_dict (pa_cons (pv 6) pa_nil)))
    (pss_cons (ps_set (i := 9) sc_l_picked.nd rfl (.inl rfl) (pe_ix (kIx (K := K)) (pe_ix (kIx (K := K)) (pv 2) pe_int (fun _ _ => rfl)) (pv 3) (fun _ _ => rfl)))
    (pss_cons (ps_setLc (i := 10) (own := [("_law_number", 12)]) rfl sc_l_picked.nd rfl rfl (sw_true rfl rfl rfl (by decide +kernel)) (k_sq (K := K) (pv 5)) (blkOk_by (N := N_l_picked) (sc := defScope s_l_picked) (by decide +kernel)) (fun _ _ _ _ _ => (pg_name (i := 12) sc_l_picked.nd rfl (.inl rfl))) (fun _ _ _ _ _ => pts_nil) (fun _ _ _ _ _ => (pe_tup (pa_cons (pe_ix (kIx (K := K)) (pe_dget hu (pv 8) (pv 12) (fun _ _ => rfl)) pe_int (fun _ _ => rfl)) (pa_cons (pv 12) pa_nil)))))
    (pss_cut (ps_if (pt_cmpR (kEq (K := K) hu64) (pv 0) pe_int (nomark _))
    (pss_one (ps_setLc (i := 10) (own := [("_law_number", 12)]) rfl sc_l_picked.nd rfl rfl (sw_true rfl rfl rfl (by decide +kernel)) (k_sq (K := K) (pv 5)) (blkOk_by (N := N_l_picked) (sc := defScope s_l_picked) (by decide +kernel)) (fun _ _ _ _ _ => (pg_name (i := 12) sc_l_picked.nd rfl (.inl rfl))) (fun _ _ _ _ _ => pts_nil) (fun _ _ _ _ _ => (pe_tup (pa_cons pe_int (pa_cons (pv 12) pa_nil))))))
    (pss_one (ps_if (pt_cmpR (kEq (K := K) hu64) (pv 0) pe_int (nomark _))
      (pss_one (ps_setLc (i := 10) (own := [("_law_number", 12)]) rfl sc_l_picked.nd rfl rfl (sw_true rfl rfl rfl (by decide +kernel)) (k_sq (K := K) (pv 5)) (blkOk_by (N := N_l_picked) (sc := defScope s_l_picked) (by decide +kernel)) (fun _ _ _ _ _ => (pg_name (i := 12) sc_l_picked.nd rfl (.inl rfl))) (fun _ _ _ _ _ => pts_nil) (fun _ _ _ _ _ => (pe_tup (pa_cons (pe_un oNeg (pe_ix (kIx (K := K)) (pe_dget hu (pv 8) (pv 12) (fun _ _ => rfl)) pe_int (fun _ _ => rfl))) (pa_cons (pv 12) pa_nil))))))
      (pss_one (ps_if (pt_cmpR (kEq (K := K) hu64) (pv 0) pe_int (nomark _))
        (pss_one (ps_setLc (i := 10) (own := [("_law_number", 12)]) rfl sc_l_picked.nd rfl rfl (sw_true rfl rfl rfl (by decide +kernel)) (k_sq (K := K) (pv 5)) (blkOk_by (N := N_l_picked) (sc := defScope s_l_picked) (by decide +kernel)) (fun _ _ _ _ _ => (pg_name (i := 12) sc_l_picked.nd rfl (.inl rfl))) (fun _ _ _ _ _ => pts_nil) (fun _ _ _ _ _ => (pe_tup (pa_cons (pe_op oMod (pe_callTy cInt (by rfl) B.int b_int (pa_cons (pe_op (kAdd (K := K)) (pe_op (kAdd (K := K)) (pe_op (kAdd (K := K)) (pe_op (kMul (K := K)) (pv 12) pe_int) (pe_op (kMul (K := K)) (pv 4) pe_int)) (pe_op (kMul (K := K)) (pv 3) pe_int)) (pv 1)) pa_nil)) pe_int) (pa_cons (pv 12) pa_nil))))))
        (pss_one (ps_if (pt_cmpR (kEq (K := K) hu64) (pv 0) pe_int (nomark _))
          (pss_one (ps_set (i := 9) sc_l_picked.nd rfl (.inl rfl) (pe_op (kMul (K := K)) (pv 9) (pe_op oMod (pe_callTy cInt (by rfl) B.int b_int (pa_cons (pe_op (kAdd (K := K)) (pe_op (kAdd (K := K)) (pv 4) (pv 3)) (pv 1)) pa_nil)) pe_int))))
          (pss_one (ps_if (pt_cmpR (kEq (K := K) hu64) (pv 0) pe_int (nomark _))
            (pss_one (ps_setLc (i := 10) (own := [("_law_number", 12)]) rfl sc_l_picked.nd rfl rfl (sw_true rfl rfl rfl (by decide +kernel)) (k_sq (K := K) (pv 5)) (blkOk_by (N := N_l_picked) (sc := defScope s_l_picked) (by decide +kernel)) (fun _ _ _ _ _ => (pg_name (i := 12) sc_l_picked.nd rfl (.inl rfl))) (fun _ _ _ _ _ => pts_nil) (fun _ _ _ _ _ => (pe_tup (pa_cons (pe_un oNeg (pe_callB (kLen (K := K)) (by rfl) B.len b_len (pa_cons (pe_ix (kIx (K := K)) (pe_dget hu (pv 8) (pv 12) (fun _ _ => rfl)) pe_int (fun _ _ => rfl)) pa_nil))) (pa_cons (pv 12) pa_nil))))))
            (pss_one (ps_if (pt_cmpR (kEq (K := K) hu64) (pv 0) pe_int (nomark _))
              (pss_one (ps_setLc (i := 10) (own := [("_law_number", 12)]) rfl sc_l_picked.nd rfl rfl (sw_true rfl rfl rfl (by decide +kernel)) (k_sq (K := K) (pv 5)) (blkOk_by (N := N_l_picked) (sc := defScope s_l_picked) (by decide +kernel)) (fun _ _ _ _ _ => (pg_name (i := 12) sc_l_picked.nd rfl (.inr rfl))) (fun _ _ _ _ _ => pts_nil) (fun _ _ _ _ _ => (pe_tup (pa_cons (pe_un oNeg (pe_callB (kLen (K := K)) (by rfl) B.len b_len (pa_cons (pe_lc (own := [("_law_when", 15), ("_law_where", 16), ("_law_who", 17)]) rfl sc_l_picked.nd (k_sq (K := K) (pv 7)) (blkOk_by (N := N_l_picked) (sc := relS _ (defScope s_l_picked)) (by decide +kernel)) (fun _ _ _ _ _ => (k_tup (K := K) (n := 3) (by rfl) (pgs_cons (pg_name (i := 15) sc_l_picked.nd rfl (.inl rfl)) (pgs_cons (pg_name (i := 16) sc_l_picked.nd rfl (.inl rfl)) (pgs_cons (pg_name (i := 17) sc_l_picked.nd rfl (.inl rfl)) pgs_nil))))) (fun _ _ _ _ _ => (pts_one (pt_cmpR (kEq (K := K) hu64) (pv 17) (pv 12) (nomark _)))) (fun _ _ _ _ _ => pe_int)) pa_nil))) (pa_cons (pv 12) pa_nil))))))
              (pss_one (ps_if (pt_cmpR (kEq (K := K) hu64) (pv 0) pe_int (nomark _))
                (pss_one (ps_set (i := 9) sc_l_picked.nd rfl (.inl rfl) (pe_op oSub (pv 9) (pe_callB (kLen (K := K)) (by rfl) B.len b_len (pa_cons (pe_lc (own := [("_law_number", 12), ("_law_each", 14)]) rfl sc_l_picked.nd (k_sq (K := K) (pv 6)) (blkOk_by (N := N_l_picked) (sc := defScope s_l_picked) (by decide +kernel)) (fun _ _ _ _ _ => (k_tup (K := K) (n := 2) (by rfl) (pgs_cons (pg_name (i := 12) sc_l_picked.nd rfl (.inl rfl)) (pgs_cons (pg_name (i := 14) sc_l_picked.nd rfl (.inl rfl)) pgs_nil)))) (fun _ _ _ _ _ => (pts_one (PW.pt (pw_and (pt_chain (kEq (K := K) hu64) (kEq (K := K) hu64) (pe_ix (kIx (K := K)) (pv 14) pe_int (fun _ _ => rfl)) (pe_op (kAdd (K := K)) (pv 4) pe_int) (pe_ix (kIx (K := K)) (pv 14) pe_int (fun _ _ => rfl))) (pw_and1 (pt_cmpR (kEq (K := K) hu64) (pe_ix (kIx (K := K)) (pv 14) pe_int (fun _ _ => rfl)) (pe_tup (pa_cons (pv 3) pa_nil)) (nomark _))))))) (fun _ _ _ _ _ => pe_int)) pa_nil)))))
                (pss_one (ps_if (pt_cmpR (kEq (K := K) hu64) (pv 0) pe_int (nomark _))
                  (pss_one (ps_set (i := 9) sc_l_picked.nd rfl (.inl rfl) pe_int))
                  (pss_one (ps_if (pt_cmpR (kEq (K := K) hu64) (pv 0) pe_int (nomark _))
                    (pss_one (ps_setLc (i := 10) (own := [("_law_number", 12)]) rfl sc_l_picked.nd rfl rfl (sw_true rfl rfl rfl (by decide +kernel)) (k_sq (K := K) (pv 5)) (blkOk_by (N := N_l_picked) (sc := defScope s_l_picked) (by decide +kernel)) (fun _ _ _ _ _ => (pg_name (i := 12) sc_l_picked.nd rfl (.inl rfl))) (fun _ _ _ _ _ => pts_nil) (fun _ _ _ _ _ => (pe_tup (pa_cons (pe_op oMod (pe_callTy cInt (by rfl) B.int b_int (pa_cons (pe_op (kAdd (K := K)) (pv 12) (pv 4)) pa_nil)) (pe_callB kMax2 (by rfl) B.max b_max (pa_cons pe_int (pa_cons (pe_callB (kLen (K := K)) (by rfl) B.len b_len (pa_cons (pv 8) pa_nil)) pa_nil)))) (pa_cons (pv 12) pa_nil))))))
                    pss_nil)))))))))))))))))
    (pss_cons (ps_set (i := 11) sc_l_picked.nd rfl (.inl rfl) (pe_slice (kSl (K := K)) (pe_lc (own := [("_law_number", 12), ("_law_rank", 13)]) rfl sc_l_picked.nd (k_sq (K := K) (pe_callB (kSortD (K := K) hu64) (by rfl) B.sorted b_sorted (pa_cons (pv 10) pa_nil))) (blkOk_by (N := N_l_picked) (sc := defScope s_l_picked) (by decide +kernel)) (fun _ _ _ _ _ => (k_tup (K := K) (n := 2) (by rfl) (pgs_cons (pg_name (i := 13) sc_l_picked.nd rfl (.inl rfl)) (pgs_cons (pg_name (i := 12) sc_l_picked.nd rfl (.inl rfl)) pgs_nil)))) (fun _ _ _ _ _ => pts_nil) (fun _ _ _ _ _ => (pv 12))) po_none (po_some (pe_callB kMax2 (by rfl) B.max b_max (pa_cons pe_int (pa_cons (pv 9) pa_nil))))))
    (pss_one (ps_ret (pe_ifExp (pt_cmpR (kEq (K := K) hu64) (pe_op oMod (pv 1) pe_int) pe_int (nomark _)) (pe_callTy (kTup (K := K)) (by rfl) B.tuple b_tuple (pa_cons (pv 11) pa_nil)) (pv 11))))))))), ?_⟩
    -- card = dict(seen)
    obtain ⟨ys, hpl, hys⟩ := hq.s
    obtain ⟨kvs, k1, k2, k3⟩ := dic_of (K := K) hys
    have hyl := hys.len
    rw [List.length_map] at hyl
    have knd : (kvs.map (·.1)).Nodup := by
      rw [k2]
      have e : q.seen.map (fun p => (.inl (p.1 : Int) : L2.Key)) = (q.seen.map (·.1)).map fun n : Nat => (.inl (n : Int) : L2.Key) := by rw [List.map_map] <;> rfl
      rw [e]
      exact List.pairwise_map.mpr (qok.nd.imp fun {x y} z e => z (by
        injection e with e
        omega))
    have km : mergeK [] kvs = kvs := (merge_new (κ := Nat) kvs [] knd fun _ _ => rfl).trans (List.nil_append _)
    refine ⟨sv, rfl, sv, ys, kvs, rfl, hpl, k1, by have := qok.sl; omega, fun p hp => ?_⟩
    have klen : kvs.length = q.seen.length := by
      have := congrArg List.length k2
      simpa using this
    have hC : CardsK (upd H p (.dK (mergeK [] kvs))) p q.seen := ⟨kvs, by rw [km]; exact upd_same, klen, fun n hn => by
      obtain ⟨v, h1, h2⟩ := k3 _ (keyC_mem hn)
      exact ⟨v, val_mem knd h1, h2.ex (Ex.new hp)⟩⟩
    have hW := hW.ex (Ex.new hp (o := .dK (mergeK [] kvs)))
    have hq := hq.ex (Ex.new hp (o := .dK (mergeK [] kvs)))
    have ex0 : Ex H (upd H p (.dK (mergeK [] kvs))) := Ex.new hp
    generalize upd H p (.dK (mergeK [] kvs)) = H1 at *
    show tSeq _ _ _ [some (V.int kind), some (V.int salt), some (V.ref a), some (V.int (q.road : Int)), some (V.int q.tick), some wv, some sv, some zv, some (V.ref p), none, none, none, none, none, none, none, none, none] _
    refine q_asg (v := .int (W.rooms.getD q.road 0)) (ev_num (ed_rooms hW (ev_var rfl)) (ev_var rfl) (by rw [wok.lm]; exact qok.road)) fun H2 e2 => ?_
    have hC := hC.mono e2
    have hq := hq.ex e2
    have ex0 := ex0.trans e2
    clear e2 hW
    show tSeq _ _ _ [some (V.int kind), some (V.int salt), some (V.ref a), some (V.int (q.road : Int)), some (V.int q.tick), some wv, some sv, some zv, some (V.ref p), some (V.int (W.rooms.getD q.road 0)), none, none, none, none, none, none, none, none] _
    -- a list of ranks
    have hW1 : ∀ {H3 : Hp} {σ : L2.St}, Ex H2 H3 → σ[5]? = some (some wv) → ES (tVar 5) σ H3 (q.waiting.map iN) := fun {H3 σ} e hs => ED.es (ed_var hs (hq.w.ex e))
    have turn : ∀ {H3 : Hp} {σ : L2.St} {te : TE} {tt : TT} (r : Nat → Int), Ex H2 H3 → σ[5]? = some (some wv) → σ[12]? = some none → (∀ σ' H' Q, Q true H' → tt σ' H' Q) → (∀ (n : Nat) H', n ∈ q.waiting → Ex H3 H' → Ev te ((wipe σ [12]).set 12 (some (.int (n : Int)))) H' (.int (r n))) →
        ELD (tLc (iSq K (tVar 5)) (gName 12) tt (tTup (tCons te (tCons (tVar 12) tNil))) [12]) σ H3 ((q.waiting.map fun n => (r n, n)).map encO) := by
      intro H3 σ te tt r e h5 h12 ht hr
      rw [List.map_map]
      refine eld_all q.waiting iN _ (hW1 e h5) mono_name (by have := qok.wl; omega) fun n v H' hn e' hd => ?_
      have hv : v = .int (n : Int) := hd
      subst hv
      have hlt : 12 < σ.length := (List.getElem?_eq_some_iff.mp h12).1
      refine ⟨Ex.refl _, by simp [wipe], fun H1 _ Q q => ht _ _ _ (q H1 (Ex.refl _)), ed_tup (ead_cons (edI (hr n H' hn e')) (ead_cons (edI (ev_var (by simp [wipe, hlt]))) ead_nil)) (by show 2 ≤ 100000; decide)⟩
    refine q_asgLD (turn (fun n => (keyC q.seen n).home) (Ex.refl _) rfl rfl (fun _ _ _ q => q) fun n H' hn e => ev_chome (ed_card (hC.mono e) (qok.sub n hn) (ev_var rfl) (ev_var rfl))) fun p1 vs1 H3 _ e3 h3 hx3 => ?_
    -- the kinds
    refine q_cut (M := fun σ H4 => ∃ (r : Nat → Int) (m : Int) (p2 : Addr) (vs2 : List V), σ = [some (V.int kind), some (V.int salt), some (V.ref a), some (V.int (q.road : Int)), some (V.int q.tick), some wv, some sv, some zv, some (V.ref p), some (V.int m), some (V.ref p2), none, none, none, none, none, none, none] ∧ Ex H2 H4 ∧
      H4 p2 = some (.lst vs2) ∧ DtA H4 ((q.waiting.map fun n => (r n, n)).map encO) vs2 ∧ (∀ n, rankOf kind salt q.road q.tick q.seen q.past n = r n) ∧ manyOf kind salt W q.road q.tick q.seen = m) ?_ ?_
    · have hr0 : 0 ≤ W.rooms.getD q.road 0 ∧ W.rooms.getD q.road 0 ≤ 3 := by
        have := wok.rooms _ (getD_mem (x := 0) (by rw [wok.lm]; exact qok.road))
        omega
      have leaf : ∀ {H3 : Hp} {σ : L2.St} {te : TE} {tt : TT} {D : Ends} (r : Nat → Int), Ex H2 H3 → σ[5]? = some (some wv) → σ[12]? = some none → (∀ σ' H' Q, Q true H' → tt σ' H' Q) → (∀ (n : Nat) H', n ∈ q.waiting → Ex H3 H' → Ev te ((wipe σ [12]).set 12 (some (.int (n : Int)))) H' (.int (r n))) →
          (∀ p2 vs2 H4, Ex H2 H4 → H4 p2 = some (.lst vs2) → DtA H4 ((q.waiting.map fun n => (r n, n)).map encO) vs2 → D.nx (σ.set 10 (some (.ref p2))) H4) →
          tAsg (tLc (iSq K (tVar 5)) (gName 12) tt (tTup (tCons te (tCons (tVar 12) tNil))) [12]) (gName 10) D σ H3 := fun {H3 σ te tt D} r e h5 h12 ht hr k => s_asgLD (turn r e h5 h12 ht hr) fun p2 vs2 H4 _ e4 h4 hx => k p2 vs2 H4 (e.trans e4) h4 hx
      refine s_if (et_test (ev_eqI (ev_var rfl) ev_c)) (fun hb H4 e4 => ?_) (fun hb1 H4 e4 => ?_)
      · have hk : kind = 1 := of_decide_eq_true hb
        refine leaf (fun n => 0) (e3.trans e4) rfl rfl (fun _ _ _ q => q) (fun n H' hn e => ev_c) fun p2 vs2 H5 e5 h5 hx5 => ⟨_, _, p2, vs2, rfl, e5, h5, hx5, fun n => by simp [rankOf, hk], by simp [manyOf, hk]⟩
      have k1 : ¬ kind = 1 := of_decide_eq_false hb1
      refine s_if (et_test (ev_eqI (ev_var rfl) ev_c)) (fun hb H5 e5 => ?_) (fun hb2 H5 e5 => ?_)
      · have hk : kind = 2 := of_decide_eq_true hb
        refine leaf (fun n => -(keyC q.seen n).home) ((e3.trans e4).trans e5) rfl rfl (fun _ _ _ q => q) (fun n H' hn e => ev_neg (ev_chome (ed_card (hC.mono (((e3.trans e4).trans e5).trans e)) (qok.sub n hn) (ev_var rfl) (ev_var rfl)))) fun p2 vs2 H5 e5 h5 hx5 => ⟨_, _, p2, vs2, rfl, e5, h5, hx5, fun n => by simp [rankOf, hk], by simp [manyOf, hk]⟩
      have k2 : ¬ kind = 2 := of_decide_eq_false hb2
      refine s_if (et_test (ev_eqI (ev_var rfl) ev_c)) (fun hb H6 e6 => ?_) (fun hb3 H6 e6 => ?_)
      · have hk : kind = 3 := of_decide_eq_true hb
        refine leaf (fun n => ((n : Int) * 7919 + q.tick * 104729 + q.road * 31 + salt) % 101) (((e3.trans e4).trans e5).trans e6) rfl rfl (fun _ _ _ q => q) (fun n H' hn e => ev_mod (ev_int (ev_add (ev_add (ev_add (ev_mul (ev_var rfl) ev_c (.inr (by decide))) (ev_mul (ev_var rfl) ev_c (.inr (by decide)))) (ev_mul (ev_var rfl) ev_c (.inr (by decide)))) (ev_var rfl))) ev_c (by decide)) fun p2 vs2 H5 e5 h5 hx5 => ⟨_, _, p2, vs2, rfl, e5, h5, hx5, fun n => by simp [rankOf, hk], by simp [manyOf, hk]⟩
      have k3 : ¬ kind = 3 := of_decide_eq_false hb3
      have e36 := ((e3.trans e4).trans e5).trans e6
      have h6 : H6 p1 = some (.lst vs1) := ((e4.trans e5).trans e6) _ _ h3
      have hx6 := hx3.ex ((e4.trans e5).trans e6)
      refine s_if (et_test (ev_eqI (ev_var rfl) ev_c)) (fun hb H7 e7 => ?_) (fun hb4 H7 e7 => ?_)
      · have hk : kind = 4 := of_decide_eq_true hb
        refine s_asg (ev_mul (ev_var rfl) (ev_mod (ev_int (ev_add (ev_add (ev_var rfl) (ev_var rfl)) (ev_var rfl))) ev_c (by decide)) (.inl (by omega))) fun H8 e8 => ?_
        exact ⟨fun n => (keyC q.seen n).home, _, p1, vs1, rfl, (e36.trans e7).trans e8, (e7.trans e8) _ _ h6, hx6.ex (e7.trans e8), fun n => by simp [rankOf, hk], by simp [manyOf, hk]⟩
      have k4 : ¬ kind = 4 := of_decide_eq_false hb4
      refine s_if (et_test (ev_eqI (ev_var rfl) ev_c)) (fun hb H8 e8 => ?_) (fun hb5 H8 e8 => ?_)
      · have hk : kind = 5 := of_decide_eq_true hb
        refine leaf (fun n => -(((keyC q.seen n).way.length : Nat) : Int)) ((e36.trans e7).trans e8) rfl rfl (fun _ _ _ q => q) (fun n H' hn e => ev_neg (ev_lenM (ed_cway (ed_card (hC.mono (((e36.trans e7).trans e8).trans e)) (qok.sub n hn) (ev_var rfl) (ev_var rfl))).es)) fun p2 vs2 H5 e5 h5 hx5 => ⟨_, _, p2, vs2, rfl, e5, h5, hx5, fun n => by simp [rankOf, hk], by simp [manyOf, hk]⟩
      have k5 : ¬ kind = 5 := of_decide_eq_false hb5
      refine s_if (et_test (ev_eqI (ev_var rfl) ev_c)) (fun hb H9 e9 => ?_) (fun hb6 H9 e9 => ?_)
      · have hk : kind = 6 := of_decide_eq_true hb
        refine leaf (fun n => -(((q.past.filter fun z => decide (z.2.2 = n)).length : Nat) : Int)) (((e36.trans e7).trans e8).trans e9) rfl rfl (fun _ _ _ q => q) (fun n H' hn e => ev_neg (ev_isI (ev_len (ELD.es (eld_over q.past dPass (fun z => decide (z.2.2 = n)) (fun _ => PyData.int 1) (ED.es (ed_var rfl (hq.p.ex ((((e36.trans e7).trans e8).trans e9).trans e)))) (mono_tup (monoS_cons mono_name (monoS_cons mono_name (monoS_cons mono_name monoS_nil)))) (by have := qok.pl; omega) fun z v H' hz e' hd => ?_))) ?_)) fun p2 vs2 H5 e5 h5 hx5 => ⟨_, _, p2, vs2, rfl, e5, h5, hx5, fun n => by simp [rankOf, hk], by simp [manyOf, hk]⟩
        · refine g_tup hd rfl fun xs hx => ?_
          obtain ⟨v1, r1, rfl, hv1, v2, r2, rfl, hv2, v3, r3, rfl, hv3, hr3⟩ := hx
          have hv3 : v3 = .int (z.2.2 : Int) := hv3
          subst hv3
          have hr3 : r3 = [] := hr3
          subst hr3
          refine ⟨v1, _, rfl, v2, _, rfl, _, _, rfl, rfl, Ex.refl _, rfl, et_is (et_test (ev_eqI (ev_var rfl) (ev_var rfl))) ?_, fun _ => edI ev_c⟩
          by_cases h : z.2.2 = n
          · simp [h]
          · have h2 : ¬ (z.2.2 : Int) = (n : Int) := by omega
            simp [h, h2]
        · rw [List.length_map]
      have k6 : ¬ kind = 6 := of_decide_eq_false hb6
      have e39 := ((e36.trans e7).trans e8).trans e9
      have e69 := (e7.trans e8).trans e9
      refine s_if (et_test (ev_eqI (ev_var rfl) ev_c)) (fun hb H10 e10 => ?_) (fun hb7 H10 e10 => ?_)
      · have hk : kind = 7 := of_decide_eq_true hb
        refine s_asg (ev_sub (ev_var rfl) (ev_isI (ev_len (ELD.es (eld_over q.seen dSeen1 (soon q.road q.tick) (fun _ => PyData.int 1) (ED.es (ed_var rfl (hq.s.dt.ex (e39.trans e10)))) (mono_tup (monoS_cons mono_name (monoS_cons mono_name monoS_nil))) (by have := qok.sl; omega) fun z v H' hz e' hd => ?_))) (j := (((q.seen.filter (soon q.road q.tick)).length : Nat) : Int)) ?_)) fun H11 e11 => ?_
        · refine g_tup hd rfl fun xs hx => ?_
          obtain ⟨v1, r1, rfl, hv1, v2, r2, rfl, hv2, hr3⟩ := hx
          have hr3 : r2 = [] := hr3
          subst hr3
          have hc : ∀ {σ : L2.St}, σ[14]? = some (some v2) → ED (tVar 14) σ H' (dCard z.2) := fun hs => ed_var hs hv2
          refine ⟨v1, _, rfl, v2, _, rfl, rfl, Ex.refl _, rfl, et_and (et_test (ev_chainI (ev_ccome (hc rfl)) (ev_add (ev_var rfl) ev_c) (ev_chome (hc rfl)))) fun _ => et_test (ev_eqD (ed_cway (hc rfl)) (ed_tup (ead_cons (edI (ev_var rfl)) ead_nil) (by show 1 ≤ 100000; decide)) (lay_way _).shaped ?_), fun _ => edI ev_c⟩
          exact (lay_way [q.road]).shaped
        · rw [List.length_map]
        · exact ⟨fun n => (keyC q.seen n).home, _, p1, vs1, rfl, (e39.trans e10).trans e11, ((e69.trans e10).trans e11) _ _ h6, hx6.ex ((e69.trans e10).trans e11), fun n => by simp [rankOf, hk], by simp [manyOf, hk]⟩
      have k7 : ¬ kind = 7 := of_decide_eq_false hb7
      refine s_if (et_test (ev_eqI (ev_var rfl) ev_c)) (fun hb H11 e11 => ?_) (fun hb8 H11 e11 => ?_)
      · have hk : kind = 8 := of_decide_eq_true hb
        refine s_asg ev_c fun H12 e12 => ?_
        have ea := (e10.trans e11).trans e12
        exact ⟨fun n => (keyC q.seen n).home, _, p1, vs1, rfl, e39.trans ea, (e69.trans ea) _ _ h6, hx6.ex (e69.trans ea), fun n => by simp [rankOf, hk], by simp [manyOf, hk]⟩
      have k8 : ¬ kind = 8 := of_decide_eq_false hb8
      have e311 := (e39.trans e10).trans e11
      refine s_if (et_test (ev_eqI (ev_var rfl) ev_c)) (fun hb H12 e12 => ?_) (fun hb9 H12 e12 => ?_)
      · have hk : kind = 9 := of_decide_eq_true hb
        refine leaf (fun n => ((n : Int) + q.tick) % (if ((q.seen.length : Nat) : Int) > 1 then ((q.seen.length : Nat) : Int) else 1)) (e311.trans e12) rfl rfl (fun _ _ _ q => q) (fun n H' hn e => ev_mod (ev_int (ev_add (ev_var rfl) (ev_var rfl))) (ev_max2 ev_c ?_) (by split <;> omega)) fun p2 vs2 H5 e5 h5 hx5 => ⟨_, _, p2, vs2, rfl, e5, h5, hx5, fun n => by simp [rankOf, hk], by simp [manyOf, hk]⟩
        obtain ⟨kvs', a1, a2, _⟩ := (hC.mono ((e311.trans e12).trans e)).ex
        rw [← a2]
        exact ev_lenDic (ev_var rfl) a1
      have k9 : ¬ kind = 9 := of_decide_eq_false hb9
      have ea := (e10.trans e11).trans e12
      exact ⟨fun n => (keyC q.seen n).home, _, p1, vs1, rfl, e39.trans ea, (e69.trans ea) _ _ h6, hx6.ex (e69.trans ea), fun n => by simp [rankOf, k1, k2, k3, k4, k5, k6, k7, k8, k9], by simp [manyOf, k4, k7, k8]⟩
    · rintro σ' H4 ⟨r, m, p2, vs2, rfl, e4, h4, hx4, hrk, hmn⟩
      have hpk : picks kind salt W q = (((q.waiting.map fun n => (r n, n)).mergeSort (PySem.W.dataLe false encO)).map (·.2)).take (upTo m) := by
        unfold picks pick
        rw [hmn]
        have : (fun n => (rankOf kind salt q.road q.tick q.seen q.past n, n)) = fun n => (r n, n) := funext fun n => by rw [hrk]
        rw [this]
      have hso : ELD (tCB (rSortD K) (tCons (tVar 10) tNil)) [some (V.int kind), some (V.int salt), some (V.ref a), some (V.int (q.road : Int)), some (V.int q.tick), some wv, some sv, some zv, some (V.ref p), some (V.int m), some (V.ref p2), none, none, none, none, none, none, none] H4 (((q.waiting.map fun n => (r n, n)).mergeSort (PySem.W.dataLe false encO)).map encO) :=
        eld_sorted' (ev_var rfl) h4 hx4 (.of fun b b' => by simp [encO, PySem.W.alike, PySem.W.alikeAll]) (.tuples fun b => ⟨_, _, rfl⟩) fun b _ => by simp [encO, PyData.depth, PyData.depthAll]
      refine q_asgLD (eld_cut (ds := ((((q.waiting.map fun n => (r n, n)).mergeSort (PySem.W.dataLe false encO)).map (·.2))).map iN) (k := upTo m) (ELD.is (eld_all (((q.waiting.map fun n => (r n, n)).mergeSort (PySem.W.dataLe false encO))) encO (fun z => iN z.2) hso.es (mono_tup (monoS_cons mono_name (monoS_cons mono_name monoS_nil))) ?_ fun z v H' hz e' hd => ?_) ?_) (eo_some (ev_isI (ev_max2 ev_c (ev_var rfl)) ?_))) fun p3 vs3 H5 hp3 e5 h5 hx5 => ?_
      · rw [List.length_mergeSort, List.length_map]
        have := qok.wl
        omega
      · refine g_tup hd rfl fun xs hx => ?_
        obtain ⟨v1, r1, rfl, hv1, v2, r2, rfl, hv2, hr3⟩ := hx
        have hr3 : r2 = [] := hr3
        subst hr3
        exact ⟨v1, _, rfl, v2, _, rfl, rfl, Ex.refl _, rfl, fun _ _ _ q => q _ (Ex.refl _), ed_var rfl hv2⟩
      · rw [List.map_map] <;> rfl
      · unfold upTo
        split <;> omega
      have e05 := (ex0.trans e4).trans e5
      rw [← List.map_take, ← hpk] at hx5
      have hES : ∀ {H6 : Hp}, Ex H5 H6 → ES (tVar 11) [some (V.int kind), some (V.int salt), some (V.ref a), some (V.int (q.road : Int)), some (V.int q.tick), some wv, some sv, some zv, some (V.ref p), some (V.int m), some (V.ref p2), some (V.ref p3), none, none, none, none, none, none] H6 ((picks kind salt W q).map iN) := fun e => es_list (ev_var rfl) (e _ _ h5) (hx5.ex e)
      refine (et_test (ev_eqI (ev_mod (ev_var rfl) ev_c (by decide)) ev_c)) H5 (Ex.refl _) _ fun H6 e6 => ?_
      cases hd : decide (salt % 2 = 0) with
      | true =>
        refine (ed_tupleOf (hES e6)) H6 (Ex.refl _) _ fun v H7 e7 hv => ?_
        obtain ⟨b, xs, rfl, hb, hx⟩ := hv
        exact k true b xs H7 ((e05.trans e6).trans e7) hb hx
      | false => exact ⟨_, rfl, k false p3 vs3 H6 (e05.trans e6) (e6 _ _ h5) (hx5.ex e6)⟩
end
end Z
/-! Zg: the strangers: the lambda of _law_stranger, made and called. -/
namespace Z
open PySem PySem.Spec PyProof.Rows L2 Evl LamX NdefX

/-- the words of the lambda that a def hands out -/
def lamW (qual : Str) (st : Stmt) : LW := match defBody st with
  | [.Return (some (.Lambda p b sc _)) _] => ⟨qual, p, b, sc⟩
  | _ => ⟨qual, defArgs st, .Name "" ⟨0, 0, 0, 0⟩, defScope st⟩
/-- a def of the text, its code object known -/
structure FunL (K : PySem.W.Frag) (x qual : Str) (st : Stmt) (f : Addr) (fd : FuncData) (c : Addr) : Prop where
  ex : ∃ (oc : Value) (od : Option Addr) (kV doc pm : Value) (an : Option Addr) (ct : Value) (osl : Array (Option Value)),
    fd = PySem.W.fnOf x qual (defArgs st) (defBody st) (defScope st) .none kV doc pm an (.ref c) ct ∧ K.lookup f = some ⟨oc, od, .func fd, osl⟩ ∧ PySem.W.codeIn K (.ref c) qual = true
abbrev s_l_stranger : Stmt := top 48
abbrev s_l_noted : Stmt := top 51
abbrev frS : List Str := ["_law_kind", "_law_salt", "_law_web_here"]
abbrev frN : List Str := ["_law_choose", "_law_notes"]
abbrev psL : List Str := ["_law_road", "_law_tick", "_law_waiting", "_law_seen", "_law_past"]
def wStr : LW := lamW "_law_stranger.<locals>.<lambda>" s_l_stranger
def wNot : LW := lamW "_law_noted.<locals>.<lambda>" s_l_noted
theorem sc_l_stranger : FnScope frS frS (defScope s_l_stranger) := ⟨rfl, rfl, rfl, by decide +kernel, rfl, by decide +kernel, by decide +kernel⟩
theorem sc_l_noted : FnScope frN frN (defScope s_l_noted) := ⟨rfl, rfl, rfl, by decide +kernel, rfl, by decide +kernel, by decide +kernel⟩
theorem ns_str : NScope (psL ++ frS) psL frS wStr.scope := nscope_by (by decide +kernel)
theorem ns_not : NScope (psL ++ frN) psL frN wNot.scope := nscope_by (by decide +kernel)
def Xk (H H' : Hp) : Prop := ∀ b φ, H b = some (.ext φ) → H' b = some (.ext φ)
section
variable {P : Program} {w : World} {K : PySem.W.Frag} {mg : Str → Option Value} {base : Heap}
theorem ok_l_stranger {f c Pt : Addr} {fd : FuncData} {T : List (Addr × Str)} (F : FunL K "_law_stranger" "_law_stranger" s_l_stranger f fd c) (TB : TabB base mg c Pt) (hm : (Pt, wStr.qual) ∈ T) (hu : ∀ p ∈ T, p.1 = Pt → p.2 = wStr.qual) :
    FnOk P w K mg base CX0 1 f fd frS (spMaker T wStr frS 3) := by
  obtain ⟨oc, od, kV, doc, pm, an, ct, osl, rfl, lk, hcd⟩ := F.ex
  exact ok_maker (W := wStr) lk hcd sc_l_stranger TB hm hu rfl (fun _ => rfl) (by decide +kernel) (by decide +kernel) (by decide +kernel)
theorem ok_l_noted {f c Pt : Addr} {fd : FuncData} {T : List (Addr × Str)} (F : FunL K "_law_noted" "_law_noted" s_l_noted f fd c) (TB : TabB base mg c Pt) (hm : (Pt, wNot.qual) ∈ T) (hu : ∀ p ∈ T, p.1 = Pt → p.2 = wNot.qual) :
    FnOk P w K mg base CX0 1 f fd frN (spMaker T wNot frN 2) := by
  obtain ⟨oc, od, kV, doc, pm, an, ct, osl, rfl, lk, hcd⟩ := F.ex
  exact ok_maker (W := wNot) lk hcd sc_l_noted TB hm hu rfl (fun _ => rfl) (by decide +kernel) (by decide +kernel) (by decide +kernel)

/-- a stranger of a kind stands at f -/
structure Who where
  kind : Int
  salt : Int
  W : Web
def StrAt (H : Hp) (f : Addr) (L : LF) (a : Addr) (o : Who) : Prop := (∃ cl c, L = wStr.at cl c) ∧ CloAt H f L frS [.int o.kind, .int o.salt, .ref a] ∧ WebAt H a o.W ∧ WebOk o.W
def RStr (f : Addr) (vs : List V) (H : Hp) (Q : VK) : Prop := ∃ (L : LF) (a : Addr) (o : Who) (q : Asked) (wv sv zv : V), StrAt H f L a o ∧ vs = [.int (q.road : Int), .int q.tick, wv, sv, zv] ∧ AskOk o.W q ∧ AskAt H q wv sv zv ∧
  ∀ (g : Bool) (b : Addr) (xs : List V) (H' : Hp), Ex H H' → Sq0 g H' b xs → DtA H' ((picks o.kind o.salt o.W q).map iN) xs → Q (.ref b) H'
theorem tk_hid {H : Hp} {cs : List Addr} (C : CellsIn H cs) : Tk H (hid H cs) := fun a xs h => by
  rcases h with h | ⟨o, h⟩
  · exact .inl (hid_eq C h fun v z => by cases z)
  · exact .inr ⟨o, hid_eq C h fun v z => by cases z⟩
theorem web_hid {H : Hp} {cs : List Addr} {a : Addr} {W : Web} (C : CellsIn H cs) (h : WebAt H a W) : WebAt (hid H cs) a W := by
  obtain ⟨vs, h1, h2⟩ := h
  exact ⟨vs, hid_eq C h1 (fun v z => by cases z), h2.tk (tk_hid C)⟩
theorem seen_hid {H : Hp} {cs : List Addr} {v : V} {seen : List (Nat × Card)} (C : CellsIn H cs) (h : SeenIs H v seen) : SeenIs (hid H cs) v seen := by
  obtain ⟨ys, ⟨a, o, rfl, h1, h2⟩, h3⟩ := h
  exact ⟨ys, ⟨a, o, rfl, hid_eq C h1 (fun v z => by cases z), h2⟩, h3.tk (tk_hid C)⟩
theorem ask_hid {H : Hp} {cs : List Addr} {q : Asked} {wv sv zv : V} (C : CellsIn H cs) (h : AskAt H q wv sv zv) : AskAt (hid H cs) q wv sv zv := ⟨h.w.tk (tk_hid C), seen_hid C h.s, h.p.tk (tk_hid C)⟩
theorem ex_unhid {H H' : Hp} {cs : List Addr} (e : Ex (hid H cs) H') : Ex H (unhid H cs H') := fun b o h => by
  by_cases hb : b ∈ cs
  · rw [unhid_in hb]
    exact h
  · rw [unhid_out hb]
    exact e b o ((hid_out hb).trans h)
theorem ex_un2 {H H' : Hp} {cs : List Addr} (n : ∀ c ∈ cs, H' c = none) : Ex H' (unhid H cs H') := fun b o h => by
  by_cases hb : b ∈ cs
  · rw [n b hb] at h
    cases h
  · rw [unhid_out hb]
    exact h
theorem sq0_ex {f : Bool} {H H' : Hp} {a : Addr} {xs : List V} (h : Sq0 f H a xs) (e : Ex H H') : Sq0 f H' a xs := h.ex e
/-- the stranger answers -/
theorem runs_str (c_l_picked : Cal P w K mg base "_law_picked" 1 ["_law_kind", "_law_salt", "_law_web_here", "_law_road", "_law_tick", "_law_waiting", "_law_seen", "_law_past"] spPicked) : Runs P w K mg base 2 RStr := by
  refine ⟨fun f vs H Q h => ?_, fun f A outer s H us vs Q hr e0 r h => ?_⟩
  · obtain ⟨L, a, o, q, wv, sv, zv, ⟨_, h, _⟩, _⟩ := h
    exact ⟨L, h.fn⟩
  · obtain ⟨_, a, o, q, wv, sv, zv, ⟨⟨cl, c, rfl⟩, C, hW, wok⟩, rfl, qok, hq, k⟩ := h
    refine clo_run (t := tCall spPicked [] E0 _) ns_str hr e0 C (fun pm ctv => ?_) r rfl (fun hr2 => pe_callC c_l_picked hr2 (by rfl) (pa_cons (pv 5) (pa_cons (pv 6) (pa_cons (pv 7) (pa_cons (pv 0) (pa_cons (pv 1) (pa_cons (pv 2) (pa_cons (pv 3) (pa_cons (pv 4) pa_nil))))))))) ?_
    · match us, r with
      | [_, _, _, _, _], _ => rfl
    · refine ⟨_, rfl, _, rfl, _, rfl, _, rfl, _, rfl, _, rfl, _, rfl, _, rfl, a, o.kind, o.salt, o.W, q, wv, sv, zv, rfl, web_hid C.cellsIn hW, wok, qok, ask_hid C.cellsIn hq, fun g b xs H' e1 hb hx n => ?_⟩
      have e2 := ex_un2 (H := H) n
      exact k g b xs _ (ex_unhid e1) (hb.ex e2) (hx.ex e2)
end
end Z
/-! Zh: _law_note, and the lambda of _law_noted. -/
namespace Z
open PySem PySem.Spec PyProof.Rows L2 Evl LamX NdefX

/-- all but what stands at l is as it was -/
def Fr1 (l : Addr) (H H' : Hp) : Prop := ∀ b o, b ≠ l → H b = some o → H' b = some o
theorem Fr1.refl {l : Addr} {H : Hp} : Fr1 l H H := fun _ _ _ h => h
theorem Fr1.trans {l : Addr} {H H1 H2 : Hp} (a : Fr1 l H H1) (b : Fr1 l H1 H2) : Fr1 l H H2 := fun x o n h => b x o n (a x o n h)
theorem Fr1.of {l : Addr} {H H' : Hp} (e : Ex H H') : Fr1 l H H' := fun b o _ h => e b o h
theorem Fr1.at {l : Addr} {H : Hp} {o : HO} : Fr1 l H (upd H l o) := fun b _ n h => by rw [upd_ne n]; exact h
section
variable {l : Addr} {H H' : Hp} {xs : List V}
theorem Fr1.tk (f : Fr1 l H H') (h : H l = some (.lst xs)) : Tk H H' := fun a ys q => by
  have hne : a ≠ l := rd_ne q h (fun z => by cases z) (fun _ z => by cases z)
  rcases q with q | ⟨o, q⟩
  · exact .inl (f a _ hne q)
  · exact .inr ⟨o, f a _ hne q⟩
theorem Fr1.xk (f : Fr1 l H H') (h : H l = some (.lst xs)) : Xk H H' := fun b φ q => f b _ (fun z => by rw [z, h] at q; cases q) q
theorem Fr1.web {a : Addr} {W : Web} (f : Fr1 l H H') (h : H l = some (.lst xs)) (n : a ≠ l) (w : WebAt H a W) : WebAt H' a W := by
  obtain ⟨vs, h1, h2⟩ := w
  exact ⟨vs, f _ _ n h1, h2.tk (f.tk h)⟩
theorem Fr1.seen {v : V} {seen : List (Nat × Card)} (f : Fr1 l H H') (h : H l = some (.lst xs)) (w : SeenIs H v seen) : SeenIs H' v seen := by
  obtain ⟨ys, ⟨a, o, rfl, h1, h2⟩, h3⟩ := w
  exact ⟨ys, ⟨a, o, rfl, f _ _ (fun z => by rw [z, h] at h1; cases h1) h1, h2⟩, h3.tk (f.tk h)⟩
theorem Fr1.ask {q : Asked} {wv sv zv : V} (f : Fr1 l H H') (h : H l = some (.lst xs)) (w : AskAt H q wv sv zv) : AskAt H' q wv sv zv := ⟨w.w.tk (f.tk h), f.seen h w.s, w.p.tk (f.tk h)⟩
theorem Fr1.str {g a : Addr} {L : LF} {o : Who} (f : Fr1 l H H') (h : H l = some (.lst xs)) (n : a ≠ l) (w : StrAt H g L a o) : StrAt H' g L a o := ⟨w.1, w.2.1.keep (f.xk h), f.web h n w.2.2.1, w.2.2.2⟩
end
section
variable {K : PySem.W.Frag} {σ : L2.St} {H : Hp} {ta tb : TE}
/-- an item of a tuple, itself -/
theorem ev_ixT {p : Addr} {xs : List V} {j : Int} {v : V} (ha : Ev ta σ H (.ref p)) (hp : Rd H p (.tup xs)) (hb : Ev tb σ H (.int j)) (hj : atI xs j = some v) : Ev (tOp (rIx K) ta tb) σ H v := fun H1 e1 Q q =>
  ha H1 e1 _ fun H2 e2 => hb H2 (e1.trans e2) _ fun H3 e3 => .inr (.inl ⟨p, xs, j, v, rfl, rfl, .inl (ex_rd ((e1.trans e2).trans e3) hp), hj, q H3 (e2.trans e3)⟩)
end
def askV (q : Asked) (wv sv zv : V) : List V := [.int (q.road : Int), .int q.tick, wv, sv, zv]
def spNote : Sp := fun vs H Q _ => ∃ (g l t a : Addr) (L : LF) (o : Who) (q : Asked) (wv sv zv : V) (xs : List V), vs = [.ref g, .ref l, .ref t] ∧ StrAt H g L a o ∧ a ≠ l ∧ H l = some (.lst xs) ∧ xs.length < 50000 ∧ Rd H t (.tup (askV q wv sv zv)) ∧ AskOk o.W q ∧ AskAt H q wv sv zv ∧
  ∀ (k : Bool) (b : Addr) (ys : List V) (H' : Hp), Fr1 l H H' → H' l = some (.lst (xs ++ [.ref t])) → Sq0 k H' b ys → DtA H' ((picks o.kind o.salt o.W q).map iN) ys → Q (.ref b) H'
abbrev s_l_note : Stmt := top 52
abbrev N_l_note : List Str := ["_law_choose", "_law_notes", "_law_asked"]
theorem sc_l_note : FnScope N_l_note ["_law_choose", "_law_notes", "_law_asked"] (defScope s_l_note) := ⟨rfl, rfl, rfl, by decide +kernel, rfl, by decide +kernel, by decide +kernel⟩
/-- at f the lambda that notes what the stranger at g is asked, in the list at l -/
structure NotAt (H : Hp) (f g l a : Addr) (N L : LF) (o : Who) : Prop where
  is : ∃ cl c, N = wNot.at cl c
  clo : CloAt H f N frN [.ref g, .ref l]
  str : StrAt H g L a o
  al : a ≠ l
  apart : ∀ b ∈ N.cells, b ≠ g ∧ b ≠ L.c ∧ b ∉ L.cells
theorem NotAt.fr {H H' : Hp} {f g l a : Addr} {N L : LF} {o : Who} {xs : List V} (h : NotAt H f g l a N L o) (hl : H l = some (.lst xs)) (e : Fr1 l H H') : NotAt H' f g l a N L o := ⟨h.is, h.clo.keep (e.xk hl), e.str hl h.al h.str, h.al, h.apart⟩
def RNot (f : Addr) (vs : List V) (H : Hp) (Q : VK) : Prop := ∃ (g l a : Addr) (N L : LF) (o : Who) (q : Asked) (wv sv zv : V) (xs : List V), NotAt H f g l a N L o ∧ vs = askV q wv sv zv ∧ H l = some (.lst xs) ∧ xs.length < 50000 ∧ AskOk o.W q ∧ AskAt H q wv sv zv ∧
  ∀ (k : Bool) (b t : Addr) (ys : List V) (H' : Hp), Fr1 l H H' → H' l = some (.lst (xs ++ [.ref t])) → Rd H' t (.tup (askV q wv sv zv)) → Sq0 k H' b ys → DtA H' ((picks o.kind o.salt o.W q).map iN) ys → Q (.ref b) H'
section
variable {P : Program} {w : World} {K : PySem.W.Frag} {mg : Str → Option Value} {base : Heap}
theorem ok_l_note {f : Addr} {fd : FuncData} (F : Fun K "_law_note" "_law_note" s_l_note f fd) (B : Bl mg) (RN : Runs P w K mg base 2 RStr) : FnOk P w K mg base CX0 3 f fd ["_law_choose", "_law_notes", "_law_asked"] spNote := by
  refine F.ok sc_l_note (fun vs H Q E h => ?_) (fun cdv A outer s H vs Q E hr h => ?_)
  · obtain ⟨g, l, t, a, L, o, q, wv, sv, zv, xs, rfl, _⟩ := h
    rfl
  · obtain ⟨g, l, t, a, L, o, q, wv, sv, zv, xs, rfl, hS, hal, hl, hz, ht, qok, hq, k⟩ := h
    have hr_clo := hr
    refine ⟨_, (pss_cons (ps_expr (pe_bm PySem.F.plainAttrs_list PySem.F.slot_list_append PySem.F.type_list_append mt_append (pv 1) (pa_cons (pv 2) pa_nil)))
    (pss_one (ps_ret (pe_cloN (i := 0) RN hr_clo rfl (by first | exact .inl rfl | exact .inr (.inl rfl) | exact .inr (.inr rfl)) (pa_cons (pe_ix (kIx (K := K)) (pv 2) pe_int (fun _ _ => rfl)) (pa_cons (pe_ix (kIx (K := K)) (pv 2) pe_int (fun _ _ => rfl)) (pa_cons (pe_ix (kIx (K := K)) (pv 2) pe_int (fun _ _ => rfl)) (pa_cons (pe_ix (kIx (K := K)) (pv 2) pe_int (fun _ _ => rfl)) (pa_cons (pe_ix (kIx (K := K)) (pv 2) pe_int (fun _ _ => rfl)) pa_nil))))))))), ?_⟩
    refine q_app hl (ev_var rfl) (ev_var rfl) (by omega) fun H1 e1 => ?_
    have f1 : Fr1 l H (upd H1 l (.lst (xs ++ [.ref t]))) := (Fr1.of e1).trans Fr1.at
    have hS1 := f1.str hl hal hS
    have hq1 := f1.ask hl hq
    have ht1 := f1.tk hl _ _ ht
    have hl1 : upd H1 l (.lst (xs ++ [.ref t])) l = some (.lst (xs ++ [.ref t])) := upd_same
    generalize upd H1 l (.lst (xs ++ [.ref t])) = H2 at *
    refine ⟨g, rfl, ⟨L, hS1.2.1.fn⟩, ?_⟩
    refine (ea_cons (ev_ixT (ev_var rfl) ht1 ev_c (atI_nat (j := 0) rfl)) (ea_cons (ev_ixT (ev_var rfl) ht1 ev_c (atI_nat (j := 1) rfl)) (ea_cons (ev_ixT (ev_var rfl) ht1 ev_c (atI_nat (j := 2) rfl)) (ea_cons (ev_ixT (ev_var rfl) ht1 ev_c (atI_nat (j := 3) rfl)) (ea_cons (ev_ixT (ev_var rfl) ht1 ev_c (atI_nat (j := 4) rfl)) ea_nil))))) H2 (Ex.refl _) _ fun H3 e3 => ?_
    have f3 : Fr1 l H2 H3 := Fr1.of e3
    refine ⟨L, a, o, q, wv, sv, zv, f3.str hl1 hal hS1, rfl, qok, f3.ask hl1 hq1, fun kk b ys H' e4 hb hx => ?_⟩
    exact k kk b ys H' (f1.trans (Fr1.of (e3.trans e4))) ((e3.trans e4) _ _ hl1) hb hx
/-- what was noted goes on to the stranger -/
theorem runs_not (c_l_note : Cal P w K mg base "_law_note" 3 ["_law_choose", "_law_notes", "_law_asked"] spNote) : Runs P w K mg base 4 RNot := by
  refine ⟨fun f vs H Q h => ?_, fun f A outer s H us vs Q hr e0 r h => ?_⟩
  · obtain ⟨g, l, a, N, L, o, q, wv, sv, zv, xs, h, _⟩ := h
    exact ⟨N, h.clo.fn⟩
  · obtain ⟨g, l, a, N, L, o, q, wv, sv, zv, xs, ⟨⟨cl, c, rfl⟩, C, hS, hal, hap⟩, rfl, hl, hz, qok, hq, k⟩ := h
    have hid_l : hid H (wNot.at cl c).cells l = some (.lst xs) := hid_eq C.cellsIn hl (fun v z => by cases z)
    have hS' : StrAt (hid H (wNot.at cl c).cells) g L a o := by
      obtain ⟨h1, h2, h3, h4⟩ := hS
      refine ⟨h1, ⟨?_, ?_, h2.len, h2.inj, fun i y e => ?_, fun b hb => ?_⟩, web_hid C.cellsIn h3, h4⟩
      · rw [hid_out fun z => (hap g z).1 rfl]
        exact h2.fn
      · rw [hid_out fun z => (hap L.c z).2.1 rfl]
        exact h2.code
      · obtain ⟨b, v, q1, q2, q3⟩ := h2.has i y e
        refine ⟨b, v, q1, q2, ?_⟩
        rw [hid_out fun z => (hap b z).2.2 (List.mem_map.mpr ⟨(y, b), PySem.mem_of_lookup q1, rfl⟩)]
        exact q3
      · obtain ⟨v, q⟩ := h2.all b hb
        refine ⟨v, ?_⟩
        rw [hid_out fun z => (hap b z).2.2 hb]
        exact q
    refine clo_run (t := tCall spNote [] E0 _) ns_not hr e0 C (fun pm ctv => ?_) r rfl (fun hr2 => pe_callC c_l_note hr2 (by rfl) (pa_cons (pv 5) (pa_cons (pv 6) (pa_cons (pe_tup (pa_cons (pv 0) (pa_cons (pv 1) (pa_cons (pv 2) (pa_cons (pv 3) (pa_cons (pv 4) pa_nil)))))) pa_nil)))) ?_
    · match us, r with
      | [_, _, _, _, _], _ => rfl
    · refine ⟨_, rfl, _, rfl, _, rfl, _, rfl, _, rfl, _, rfl, _, rfl, by show 5 ≤ sizeLine; decide, fun t ht => ?_⟩
      have e1 : Ex (hid H (wNot.at cl c).cells) (upd (hid H (wNot.at cl c).cells) t (.tup (askV q wv sv zv))) := Ex.new ht
      have f1 : Fr1 l _ _ := Fr1.of e1
      have ht1 : upd (hid H (wNot.at cl c).cells) t (.tup (askV q wv sv zv)) t = some (.tup (askV q wv sv zv)) := upd_same
      have tl : t ≠ l := fun z => by rw [z, hid_l] at ht; cases ht
      show spNote [.ref g, .ref l, .ref t] (upd (hid H (wNot.at cl c).cells) t (.tup (askV q wv sv zv))) (fun v H' => (∀ c1, c1 ∈ (wNot.at cl c).cells → H' c1 = none) → Q v (unhid H (wNot.at cl c).cells H')) E0
      generalize upd (hid H (wNot.at cl c).cells) t (.tup (askV q wv sv zv)) = H1 at *
      refine ⟨g, l, t, a, L, o, q, wv, sv, zv, xs, rfl, f1.str hid_l hal hS', hal, e1 _ _ hid_l, hz, .inl ht1, qok, f1.ask hid_l (ask_hid C.cellsIn hq), fun kk b ys H' f2 hl' hb hx n => ?_⟩
      have e2 := ex_un2 (H := H) n
      refine k kk b t ys _ (fun b' o' hb' ho' => ?_) (e2 _ _ hl') (.inl (e2 _ _ (f2 _ _ tl ht1))) (hb.ex e2) (hx.ex e2)
      by_cases hm : b' ∈ (wNot.at cl c).cells
      · rw [unhid_in hm]
        exact ho'
      · rw [unhid_out hm]
        exact f2 _ _ hb' (e1 _ _ ((hid_out hm).trans ho'))
end
end Z
/-! Zm: one tick of the play, in plain words. -/
namespace Z
open PySem PySem.Spec PyProof.Rows L2 Evl

def lets (cs : List Card) : List Let := cs.map fun c => (c.way, c.come)
structure G where
  rows : List (List Int)
  past : List Pass
def numsAt (W : Web) (cs : List Card) (g : G) (tick : Int) : Int → List Nat := nums W (lets cs) g.rows tick cs.length
def roadsAt (W : Web) (cs : List Card) (g : G) (tick : Int) : List Nat := (List.range W.roads.length).filter fun r => !decide (numsAt W cs g tick (r : Int) = [])
def askAt (W : Web) (cs : List Card) (sight tick : Int) (g : G) (r : Nat) : Asked := ⟨r, tick, numsAt W cs g tick r, seenAt cs (tick + sight), g.past⟩
def passOf (o : Who) (cs : List Card) (sight tick : Int) (g : G) (r : Nat) : List Pass := (picks o.kind o.salt o.W (askAt o.W cs sight tick g r)).map fun n => (tick, r, n)
def passAt (o : Who) (cs : List Card) (sight tick : Int) (g : G) : List Pass := (roadsAt o.W cs g tick).flatMap (passOf o cs sight tick g)
def putAll (tick : Int) (rows : List (List Int)) (ps : List Pass) : List (List Int) := ps.foldl (fun rows p => rows.set p.2.2 (rows.getD p.2.2 [] ++ [tick])) rows
def sortP (ps : List Pass) : List Pass := ps.mergeSort (PySem.W.dataLe false dPass)
def stepG (o : Who) (cs : List Card) (sight tick : Int) (g : G) : G := ⟨putAll tick g.rows (passAt o cs sight tick g), g.past ++ sortP (passAt o cs sight tick g)⟩
def asksOf (W : Web) (cs : List Card) (sight tick : Int) (g : G) : List Asked := (roadsAt W cs g tick).map (askAt W cs sight tick g)
def gAt (o : Who) (cs : List Card) (sight : Int) : Nat → G
  | 0 => ⟨cs.map fun _ => [], []⟩
  | t + 1 => stepG o cs sight ((t + 1 : Nat) : Int) (gAt o cs sight t)
def asksTo (o : Who) (cs : List Card) (sight : Int) (t : Nat) : List Asked := (List.range t).flatMap fun i => asksOf o.W cs sight ((i + 1 : Nat) : Int) (gAt o cs sight i)

structure CsOk (W : Web) (cs : List Card) : Prop where
  n : cs.length ≤ 1000
  way : ∀ c ∈ cs, ∀ x ∈ c.way, x < W.roads.length
  wl : ∀ c ∈ cs, c.way.length ≤ 100
structure GOk (cs : List Card) (t : Nat) (g : G) : Prop where
  len : g.rows.length = cs.length
  le : ∀ i, i < cs.length → (g.rows.getD i []).length ≤ (cs.getD i card0).way.length
  come : ∀ i, i < cs.length → g.rows.getD i [] ≠ [] → (cs.getD i card0).come ≤ (t : Int)
  past : g.past.length ≤ 21 * t

theorem lets_len (cs : List Card) : (lets cs).length = cs.length := List.length_map _
theorem lets_get (cs : List Card) (i : Nat) : (lets cs).getD i ([], 0) = ((cs.getD i card0).way, (cs.getD i card0).come) := by
  unfold lets
  rw [List.getD_eq_getElem?_getD, List.getD_eq_getElem?_getD, List.getElem?_map]
  cases cs[i]? <;> rfl
theorem GOk.fit {W : Web} {cs : List Card} {t : Nat} {g : G} (h : GOk cs t g) (wok : WebOk W) (cok : CsOk W cs) : FitR W (lets cs) g.rows := by
  refine ⟨by rw [lets_len]; exact h.len, fun i hi => ?_, fun l hl x hx => ?_⟩
  · rw [lets_len] at hi
    rw [lets_get]
    exact h.le i hi
  · obtain ⟨c, hc, rfl⟩ := List.mem_map.mp hl
    rw [wok.lt]
    exact cok.way c hc x hx
/-- who waits at a road -/
theorem nums_mem {W : Web} {cs : List Card} {g : G} {tick : Int} {r n : Nat} (h : n ∈ numsAt W cs g tick (r : Int)) : n < cs.length ∧ due W ((cs.getD n card0).way, (cs.getD n card0).come) (g.rows.getD n []) tick = some r := by
  unfold numsAt nums at h
  obtain ⟨h1, h2⟩ := List.mem_filter.mp h
  refine ⟨List.mem_range.mp h1, ?_⟩
  rw [lets_get] at h2
  have h2 := of_decide_eq_true h2
  cases e : due W ((cs.getD n card0).way, (cs.getD n card0).come) (g.rows.getD n []) tick with
  | none => rw [e] at h2; cases h2
  | some x =>
    rw [e] at h2
    have h3 : (x : Int) = (r : Int) := Option.some.inj h2
    rw [Int.ofNat_inj.mp h3]
theorem nums_nodup (W : Web) (cs : List Card) (g : G) (tick r : Int) : (numsAt W cs g tick r).Nodup := List.nodup_range.sublist List.filter_sublist
theorem due_ready {W : Web} {l : Let} {row : List Int} {tick : Int} {r : Nat} (h : due W l row tick = some r) : ∃ t, ready W l row = some t ∧ t ≤ tick ∧ l.1.getD row.length 0 = r := by
  unfold due at h
  cases e : ready W l row with
  | none => rw [e] at h; cases h
  | some t =>
    rw [e] at h
    dsimp only at h
    split at h
    · exact ⟨t, rfl, by assumption, Option.some.inj h⟩
    · cases h
/-- a letter that waits: it isn't home, it has come -/
theorem waits_ok {W : Web} {cs : List Card} {t n r : Nat} {g : G} (G0 : GOk cs t g) (h : n ∈ numsAt W cs g ((t + 1 : Nat) : Int) (r : Int)) : n < cs.length ∧ (g.rows.getD n []).length < (cs.getD n card0).way.length ∧ (cs.getD n card0).come ≤ ((t + 1 : Nat) : Int) ∧ r ∈ (cs.getD n card0).way := by
  obtain ⟨h1, h2⟩ := nums_mem h
  obtain ⟨u, h3, h4, h5⟩ := due_ready h2
  have h6 := ready_lt h3 (G0.le n h1)
  refine ⟨h1, h6, ?_, ?_⟩
  · by_cases e : g.rows.getD n [] = []
    · unfold ready at h3
      rw [e] at h3 h6
      rw [if_neg (fun z => by rw [z] at h6; exact absurd h6 (Nat.lt_irrefl _))] at h3
      have h3 : (cs.getD n card0).come = u := Option.some.inj h3
      rw [h3]
      exact h4
    · have := G0.come n h1 e
      omega
  · rw [← h5]
    exact getD_mem h6
theorem seen_keys (cs : List Card) (tick : Int) : (seenAt cs tick).map (·.1) = (List.range cs.length).filter fun n => decide ((cs.getD n card0).come ≤ tick) := by
  unfold seenAt
  rw [List.map_map]
  exact List.map_id' _
theorem ask_ok {W : Web} {cs : List Card} {t r : Nat} {g : G} {sight : Int} (G0 : GOk cs t g) (cok : CsOk W cs) (hs : 0 ≤ sight) (ht : t ≤ 440) (hr : r < W.roads.length) : AskOk W (askAt W cs sight ((t + 1 : Nat) : Int) g r) := by
  refine ⟨hr, ?_, fun n hn => ?_, ?_, ?_, ?_⟩
  · show ((seenAt cs _).map (·.1)).Nodup
    rw [seen_keys]
    exact List.nodup_range.sublist List.filter_sublist
  · show n ∈ (seenAt cs _).map (·.1)
    rw [seen_keys]
    obtain ⟨h1, _, h2, _⟩ := waits_ok G0 hn
    exact List.mem_filter.mpr ⟨List.mem_range.mpr h1, decide_eq_true (by omega)⟩
  · show (numsAt W cs g _ _).length ≤ 1000
    have := nums_len W (lets cs) g.rows ((t + 1 : Nat) : Int) cs.length (r : Int)
    have := cok.n
    unfold numsAt
    omega
  · show (seenAt cs _).length ≤ 1000
    unfold seenAt
    rw [List.length_map]
    have h := List.length_filter_le (fun n => decide ((cs.getD n card0).come ≤ ((t + 1 : Nat) : Int) + sight)) (List.range cs.length)
    rw [List.length_range] at h
    have := cok.n
    omega
  · show g.past.length ≤ 20000
    have := G0.past
    omega
theorem roads_mem {W : Web} {cs : List Card} {g : G} {tick : Int} {r : Nat} (h : r ∈ roadsAt W cs g tick) : r < W.roads.length := List.mem_range.mp (List.mem_filter.mp h).1
/-- who passes -/
theorem pass_mem {o : Who} {cs : List Card} {sight tick : Int} {g : G} {p : Pass} (h : p ∈ passAt o cs sight tick g) : p.1 = tick ∧ p.2.2 ∈ numsAt o.W cs g tick (p.2.1 : Int) ∧ p.2.1 < o.W.roads.length := by
  obtain ⟨r, hr, hp⟩ := List.mem_flatMap.mp h
  obtain ⟨n, hn, rfl⟩ := List.mem_map.mp hp
  exact ⟨rfl, pick_mem hn, roads_mem hr⟩
theorem pass_nodup (o : Who) (cs : List Card) (sight tick : Int) (g : G) : ((passAt o cs sight tick g).map (·.2.2)).Nodup := by
  have key : ∀ rs : List Nat, rs.Nodup → ((rs.flatMap (passOf o cs sight tick g)).map (·.2.2)).Nodup := by
    intro rs
    induction rs with
    | nil => intro _; exact List.nodup_nil
    | cons r rs ih =>
      intro nd
      have nd' := List.nodup_cons.mp nd
      rw [List.flatMap_cons, List.map_append, List.nodup_append]
      refine ⟨?_, ih nd'.2, fun a ha b hb e => ?_⟩
      · unfold passOf
        rw [List.map_map]
        have e : List.map ((fun x : Pass => x.2.2) ∘ fun n => (tick, r, n)) (picks o.kind o.salt o.W (askAt o.W cs sight tick g r)) = picks o.kind o.salt o.W (askAt o.W cs sight tick g r) := List.map_id' _
        rw [e]
        exact pick_nodup (nums_nodup _ _ _ _ _)
      · subst e
        obtain ⟨p, hp, rfl⟩ := List.mem_map.mp ha
        obtain ⟨n, hn, rfl⟩ := List.mem_map.mp hp
        obtain ⟨p', hp', e⟩ := List.mem_map.mp hb
        obtain ⟨r', hr', hp'⟩ := List.mem_flatMap.mp hp'
        obtain ⟨n', hn', rfl⟩ := List.mem_map.mp hp'
        have e : n' = n := e
        subst e
        have d1 := (nums_mem (pick_mem hn)).2
        have d2 := (nums_mem (pick_mem hn')).2
        rw [d1] at d2
        have e : r = r' := Option.some.inj d2
        exact nd'.1 (e ▸ hr')
  exact key _ (List.nodup_range.sublist List.filter_sublist)
theorem pass_key {o : Who} {cs : List Card} {sight tick : Int} {g : G} (wok : WebOk o.W) : ∀ rs : List Nat, (∀ r ∈ rs, r < o.W.roads.length) → (rs.flatMap (passOf o cs sight tick g)).length ≤ 3 * rs.length := by
  intro rs
  induction rs with
  | nil => intro _; exact Nat.le_refl _
  | cons r rs ih =>
    intro h
    rw [List.flatMap_cons, List.length_append, List.length_cons]
    have h1 := ih fun x hx => h x (List.mem_cons_of_mem _ hx)
    have h2 : (passOf o cs sight tick g r).length ≤ 3 := by
      unfold passOf
      rw [List.length_map]
      have hr := h r (List.mem_cons_self ..)
      have h3 := wok.rooms _ (getD_mem (x := 0) (i := r) (by rw [wok.lm]; exact hr))
      have h4 := pick_len (kind := o.kind) (salt := o.salt) (W := o.W) (road := r) (tick := tick) (waiting := numsAt o.W cs g tick r) (seen := seenAt cs (tick + sight)) (past := g.past) (by omega)
      unfold picks askAt
      dsimp only
      omega
    omega
theorem roads_len (W : Web) (cs : List Card) (g : G) (tick : Int) : (roadsAt W cs g tick).length ≤ W.roads.length := by
  have h2 := List.length_filter_le (fun r : Nat => !decide (numsAt W cs g tick (r : Int) = [])) (List.range W.roads.length)
  rw [List.length_range] at h2
  exact h2
theorem pass_len {o : Who} {cs : List Card} {sight tick : Int} {g : G} (wok : WebOk o.W) : (passAt o cs sight tick g).length ≤ 21 := by
  have h1 := pass_key (cs := cs) (sight := sight) (tick := tick) (g := g) wok (roadsAt o.W cs g tick) fun r hr => roads_mem hr
  have h2 := roads_len o.W cs g tick
  have h3 := wok.r7
  unfold passAt
  omega

/-! ### the rows behind a tick -/
theorem put_len (tick : Int) : ∀ (ps : List Pass) (rows : List (List Int)), (putAll tick rows ps).length = rows.length
  | [], _ => rfl
  | p :: ps, rows => by
    show (putAll tick (rows.set p.2.2 (rows.getD p.2.2 [] ++ [tick])) ps).length = _
    rw [put_len tick ps, List.length_set]
theorem put_no (tick : Int) : ∀ (ps : List Pass) (rows : List (List Int)) (i : Nat), i ∉ ps.map (·.2.2) → (putAll tick rows ps).getD i [] = rows.getD i []
  | [], _, _, _ => rfl
  | p :: ps, rows, i, h => by
    rw [List.map_cons, List.mem_cons, not_or] at h
    show (putAll tick (rows.set p.2.2 (rows.getD p.2.2 [] ++ [tick])) ps).getD i [] = _
    rw [put_no tick ps _ i h.2, List.getD_eq_getElem?_getD, List.getElem?_set_ne (fun z => h.1 z.symm), ← List.getD_eq_getElem?_getD]
theorem put_yes (tick : Int) : ∀ (ps : List Pass) (rows : List (List Int)) (i : Nat), (ps.map (·.2.2)).Nodup → i ∈ ps.map (·.2.2) → i < rows.length → (putAll tick rows ps).getD i [] = rows.getD i [] ++ [tick]
  | [], _, _, _, h, _ => by simp at h
  | p :: ps, rows, i, nd, h, hi => by
    have nd' := List.nodup_cons.mp nd
    show (putAll tick (rows.set p.2.2 (rows.getD p.2.2 [] ++ [tick])) ps).getD i [] = _
    by_cases e : p.2.2 = i
    · subst e
      rw [put_no tick ps _ _ nd'.1, List.getD_eq_getElem?_getD, List.getElem?_set_self hi] <;> rfl
    · have h' : i ∈ ps.map (·.2.2) := by
        rcases List.mem_cons.mp h with z | z
        · exact absurd z.symm e
        · exact z
      rw [put_yes tick ps _ i nd'.2 h' (by rw [List.length_set]; exact hi), List.getD_eq_getElem?_getD, List.getElem?_set_ne e, ← List.getD_eq_getElem?_getD]
theorem put_le (tick : Int) : ∀ (ps : List Pass) (rows : List (List Int)) (i : Nat), ((putAll tick rows ps).getD i []).length ≤ (rows.getD i []).length + ps.length
  | [], _, _ => Nat.le_refl _
  | p :: ps, rows, i => by
    have ih := put_le tick ps (rows.set p.2.2 (rows.getD p.2.2 [] ++ [tick])) i
    show ((putAll tick (rows.set p.2.2 (rows.getD p.2.2 [] ++ [tick])) ps).getD i []).length ≤ _
    have h : ((rows.set p.2.2 (rows.getD p.2.2 [] ++ [tick])).getD i []).length ≤ (rows.getD i []).length + 1 := by
      by_cases e : p.2.2 = i
      · subst e
        by_cases hl : p.2.2 < rows.length
        · rw [List.getD_eq_getElem?_getD, List.getElem?_set_self hl]
          simp
        · rw [List.set_eq_of_length_le (by omega)]
          omega
      · rw [List.getD_eq_getElem?_getD, List.getElem?_set_ne e, ← List.getD_eq_getElem?_getD]
        omega
    rw [List.length_cons]
    omega
theorem put_snoc (tick : Int) (rows : List (List Int)) (ps : List Pass) (p : Pass) : putAll tick rows (ps ++ [p]) = (putAll tick rows ps).set p.2.2 ((putAll tick rows ps).getD p.2.2 [] ++ [tick]) := by
  unfold putAll
  rw [List.foldl_append]
  rfl
theorem step_ok {o : Who} {cs : List Card} {sight : Int} {t : Nat} {g : G} (G0 : GOk cs t g) (wok : WebOk o.W) : GOk cs (t + 1) (stepG o cs sight ((t + 1 : Nat) : Int) g) := by
  have nd := pass_nodup o cs sight ((t + 1 : Nat) : Int) g
  have fact : ∀ i, i ∈ (passAt o cs sight ((t + 1 : Nat) : Int) g).map (·.2.2) → i < cs.length ∧ (g.rows.getD i []).length < (cs.getD i card0).way.length ∧ (cs.getD i card0).come ≤ ((t + 1 : Nat) : Int) := fun i hi => by
    obtain ⟨p, hp, rfl⟩ := List.mem_map.mp hi
    obtain ⟨_, h2, _⟩ := pass_mem hp
    obtain ⟨a, b, c, _⟩ := waits_ok G0 h2
    exact ⟨a, b, c⟩
  refine ⟨(put_len _ _ _).trans G0.len, fun i hi => ?_, fun i hi hne => ?_, ?_⟩
  · show ((putAll _ g.rows _).getD i []).length ≤ _
    by_cases h : i ∈ (passAt o cs sight ((t + 1 : Nat) : Int) g).map (·.2.2)
    · rw [put_yes _ _ _ i nd h (by rw [G0.len]; exact hi), List.length_append]
      have := (fact i h).2.1
      show _ + 1 ≤ _
      omega
    · rw [put_no _ _ _ i h]
      exact G0.le i hi
  · by_cases h : i ∈ (passAt o cs sight ((t + 1 : Nat) : Int) g).map (·.2.2)
    · exact (fact i h).2.2
    · have hne : (putAll ((t + 1 : Nat) : Int) g.rows (passAt o cs sight ((t + 1 : Nat) : Int) g)).getD i [] ≠ [] := hne
      rw [put_no _ _ _ i h] at hne
      have := G0.come i hi hne
      omega
  · show (g.past ++ sortP _).length ≤ _
    rw [List.length_append]
    unfold sortP
    rw [List.length_mergeSort]
    have h1 := pass_len (o := o) (cs := cs) (sight := sight) (tick := ((t + 1 : Nat) : Int)) (g := g) wok
    have h2 := G0.past
    omega
theorem gAt_ok (o : Who) (cs : List Card) (sight : Int) (wok : WebOk o.W) : ∀ t, GOk cs t (gAt o cs sight t)
  | 0 => by
    have e : ∀ i, (cs.map fun _ => ([] : List Int)).getD i [] = [] := fun i => by
      rw [List.getD_eq_getElem?_getD, List.getElem?_map]
      cases cs[i]? <;> rfl
    refine ⟨List.length_map _, fun i hi => ?_, fun i hi h => ?_, Nat.zero_le _⟩
    · show ((cs.map fun _ => ([] : List Int)).getD i []).length ≤ _
      rw [e]
      exact Nat.zero_le _
    · exact absurd (e i) h
  | t + 1 => step_ok (gAt_ok o cs sight wok t) wok
end Z
/-! Zn: frames; rows, made, read and filled; loops over new lists. -/
namespace Z
open PySem PySem.Spec PyProof.Rows L2 Evl

/-! ### frames -/
def Soft (o : HO) : Prop := (∃ xs, o = .lst xs) ∨ ∃ C dx fs, o = .ins C dx fs
def Fk (S : Addr → Prop) (H H' : Hp) : Prop := ∀ b o, ¬ S b → H b = some o → H' b = some o
def So (S : Addr → Prop) (H : Hp) : Prop := ∀ b o, S b → H b = some o → Soft o
section
variable {S S' : Addr → Prop} {H H' H2 : Hp}
theorem Fk.refl : Fk S H H := fun _ _ _ h => h
theorem Fk.of (e : Ex H H') : Fk S H H' := fun b o _ h => e b o h
theorem Fk.trans (a : Fk S H H') (b : Fk S H' H2) : Fk S H H2 := fun x o n h => b x o n (a x o n h)
theorem Fk.at {l : Addr} {o : HO} (h : S l) : Fk S H (upd H l o) := fun b _ n q => by
  have hne : b ≠ l := fun z => n (by rw [z]; exact h)
  rw [upd_ne hne]
  exact q
theorem Fk.mono (a : Fk S H H') (h : ∀ b, S b → S' b) : Fk S' H H' := fun b o n q => a b o (fun z => n (h b z)) q
theorem Fk.out {b : Addr} {o : HO} (f : Fk S H H') (s : So S H) (h : H b = some o) (n : ¬ Soft o) : H' b = some o := f b o (fun z => n (s b o z h)) h
theorem Fk.tk (f : Fk S H H') (s : So S H) : Tk H H' := fun a ys q => by
  rcases q with q | ⟨o, q⟩
  · exact .inl (f.out s q fun z => by rcases z with ⟨_, z⟩ | ⟨_, _, _, z⟩ <;> cases z)
  · exact .inr ⟨o, f.out s q fun z => by rcases z with ⟨_, z⟩ | ⟨_, _, _, z⟩ <;> cases z⟩
theorem Fk.xk (f : Fk S H H') (s : So S H) : Xk H H' := fun b φ q => f.out s q fun z => by rcases z with ⟨_, z⟩ | ⟨_, _, _, z⟩ <;> cases z
theorem Fk.web {a : Addr} {W : Web} (f : Fk S H H') (s : So S H) (n : ¬ S a) (w : WebAt H a W) : WebAt H' a W := by
  obtain ⟨vs, h1, h2⟩ := w
  exact ⟨vs, f _ _ n h1, h2.tk (f.tk s)⟩
theorem Fk.seen {v : V} {seen : List (Nat × Card)} (f : Fk S H H') (s : So S H) (w : SeenIs H v seen) : SeenIs H' v seen := by
  obtain ⟨ys, ⟨a, o, rfl, h1, h2⟩, h3⟩ := w
  exact ⟨ys, ⟨a, o, rfl, f.out s h1 (fun z => by rcases z with ⟨_, z⟩ | ⟨_, _, _, z⟩ <;> cases z), h2⟩, h3.tk (f.tk s)⟩
theorem Fk.notAt {g l a b : Addr} {N L : LF} {o : Who} (f : Fk S H H') (s : So S H) (n : ¬ S a) (w : NotAt H b g l a N L o) : NotAt H' b g l a N L o :=
  ⟨w.is, w.clo.keep (f.xk s), ⟨w.str.1, w.str.2.1.keep (f.xk s), f.web s n w.str.2.2.1, w.str.2.2.2⟩, w.al, w.apart⟩
theorem Fk.lst {p : Addr} {vs : List V} (f : Fk S H H') (n : ¬ S p) (h : H p = some (.lst vs)) : H' p = some (.lst vs) := f _ _ n h
theorem Fk.rows {a : Addr} {rs : List Addr} {rows : List (List Int)} (f : Fk S H H') (n : ¬ S a) (m : ∀ r ∈ rs, ¬ S r) (h : RowsAt H a rs rows) : RowsAt H' a rs rows :=
  ⟨f _ _ n h.at_, h.nd, h.len, fun i r e => f _ _ (m r (List.mem_of_getElem? e)) (h.row i r e)⟩
end
def dAsked (q : Asked) : PyData := .tuple [iN q.road, .int q.tick, dWay q.waiting, .tuple (q.seen.map dSeen1), dPast q.past]
theorem asked_dt {H : Hp} {t : Addr} {q : Asked} {wv sv zv : V} (h : Rd H t (.tup (askV q wv sv zv))) (w : AskAt H q wv sv zv) : Dt H (dAsked q) (.ref t) :=
  ⟨t, _, rfl, h, _, _, rfl, rfl, _, _, rfl, rfl, wv, _, rfl, w.w, sv, _, rfl, w.s.dt, zv, _, rfl, w.p, rfl⟩

/-! ### rows -/
section
variable {K : PySem.W.Frag} {σ : L2.St} {H H' : Hp} {tl ta tb te : TE} {tt : TT} {D : Ends} {tu tz : TS} {g : TG} {ds : List PyData} {j : Nat} {vs : List Nat}
/-- a row grows -/
theorem RowsAt.app {a : Addr} {rs : List Addr} {rows : List (List Int)} {n : Nat} {r : Addr} {x : Int} (h : RowsAt H a rs rows) (hr : rs[n]? = some r) (ha : a ∉ rs) : RowsAt (upd H r (.lst (((rows.getD n [] ++ [x])).map V.int))) a rs (rows.set n (rows.getD n [] ++ [x])) := by
  have hm := List.mem_of_getElem? hr
  have hlt : n < rows.length := by
    have := (List.getElem?_eq_some_iff.mp hr).1
    have := h.len
    omega
  have har : a ≠ r := fun z => ha (by rw [z]; exact hm)
  refine ⟨by rw [upd_ne har]; exact h.at_, h.nd, by rw [List.length_set]; exact h.len, fun i r' e => ?_⟩
  by_cases hi : i = n
  · subst hi
    rw [hr] at e
    cases e
    rw [upd_same, List.getD_eq_getElem?_getD (l := rows.set i _), List.getElem?_set_self hlt] <;> rfl
  · have hne : r' ≠ r := fun z => by
      subst z
      exact hi (nd_ix h.nd e hr)
    rw [upd_ne hne, List.getD_eq_getElem?_getD, List.getElem?_set_ne (fun z => hi z.symm), ← List.getD_eq_getElem?_getD]
    exact h.row i r' e
/-- [[] for x in xs] -/
theorem er_new {α : Type} (l : List α) (enc : α → PyData) (hs : ES tl σ H (l.map enc)) (hw : ∀ x, wipe ((wipe σ vs).set j (some x)) vs = wipe σ vs) (htt : ∀ σ' H' Q, Q true H' → tt σ' H' Q) (hn : l.length ≤ 50000) {Q : VK}
    (q : ∀ p rs H2, H p = none → Ex H H2 → RowsAt H2 p rs (l.map fun _ => []) → (∀ r ∈ rs, H r = none) → p ∉ rs → Q (.ref p) H2) : tLc (iSq K tl) (gName j) tt (tLst tNil) vs σ H Q := by
  refine hs H (Ex.refl H) _ fun f a xs H2 e2 hsq hd => ⟨f, a, rfl, ⟨xs, hsq.sq⟩, fun Dl hD => ?_⟩
  have hlen : xs.length = l.length := by rw [hd.len, List.length_map]
  refine lc_it (walk_sq (xs := xs)) (fun i H' => Ex H2 H' ∧ ∃ rs : List Addr, H' Dl = some (.lst (rs.map V.ref)) ∧ rs.length = i ∧ rs.Nodup ∧ ∀ r ∈ rs, H2 r = none ∧ H' r = some (.lst []) ∧ r ≠ Dl)
    ⟨Ex.new hD, [], upd_same, rfl, List.nodup_nil, fun r h => by simp at h⟩ (fun i H' _ p => (hsq.ex p.1).sq) (fun i x H3 H4 hi ⟨p1, rs, p2, p3, p4, p5⟩ hy => ?_) fun H' ⟨p1, rs, p2, p3, p4, p5⟩ => ?_
  · obtain ⟨rfl, hx⟩ := hy
    refine ⟨hw x, htt _ _ _ ?_⟩
    rw [if_pos rfl]
    refine ⟨by decide, fun p hp => ⟨rs.map V.ref, ?_, ?_, ?_⟩⟩
    · rw [upd_ne (ne_of_none p2 hp)]
      exact p2
    · rw [List.length_map, sizeLine_eq]
      omega
    · have pD : p ≠ Dl := fun z => by rw [z, p2] at hp; cases hp
      have p0 : H2 p = none := fresh_back p1 hp
      refine ⟨Ex.mut (p1.trans (Ex.new hp)) hD, rs ++ [p], by rw [upd_same, List.map_append] <;> rfl, by rw [List.length_append, p3] <;> rfl, nodup_snoc p4 (fun hm => by rw [(p5 p hm).2.1] at hp; cases hp), fun r hr => ?_⟩
      rcases List.mem_append.mp hr with hr | hr
      · obtain ⟨b1, b2, b3⟩ := p5 r hr
        exact ⟨b1, by rw [upd_ne b3, upd_ne (ne_of_none b2 hp)]; exact b2, b3⟩
      · rw [List.mem_singleton] at hr
        subst hr
        exact ⟨p0, by rw [upd_ne pD, upd_same], pD⟩
  · refine q Dl rs H' (fresh_back e2 hD) (e2.trans p1) ⟨p2, p4, by rw [p3, hlen, List.length_map], fun i r e => ?_⟩ (fun r hr => fresh_back e2 (p5 r hr).1) fun hm => (p5 Dl hm).2.2 rfl
    have : (l.map fun _ => ([] : List Int)).getD i [] = [] := by
      rw [List.getD_eq_getElem?_getD, List.getElem?_map]
      cases l[i]? <;> rfl
    rw [this]
    exact (p5 r (List.mem_of_getElem? e)).2.1
/-- [tuple(row) for row in rows] -/
theorem eld_rows {a : Addr} {rs : List Addr} {rows : List (List Int)} (hv : Ev tl σ H (.ref a)) (h : RowsAt H a rs rows) (hw : ∀ x, wipe ((wipe σ vs).set j (some x)) vs = wipe σ vs) (hj : ∀ x, ((wipe σ vs).set j (some x))[j]? = some (some x))
    (htt : ∀ σ' H' Q, Q true H' → tt σ' H' Q) (hn : rows.length ≤ 50000) : ELD (tLc (iSq K tl) (gName j) tt (tCB (rTupQ K) (tCons (tVar j) tNil)) vs) σ H (rows.map dInts) := by
  refine ELD.is (eld_walk (n := rows.length) (fun _ => true) (fun i => dInts (rows.getD i [])) mono_name hn fun H1 e1 R hR => ?_) ?_
  · refine hv H1 e1 _ fun H2 e2 => ⟨false, a, rfl, ⟨rs.map V.ref, SqL.of (e2 _ _ (e1 _ _ h.at_))⟩, ?_⟩
    have hl : (rs.map V.ref).length = rows.length := by rw [List.length_map, h.len]
    refine hR _ H2 _ _ e2 (hl ▸ walk_sq (f := false) (xs := rs.map V.ref)) (fun H3 e3 => SqL.of (e3 _ _ (e2 _ _ (e1 _ _ h.at_)))) fun i x H3 H4 hi e3 hy => ?_
    obtain ⟨rfl, hx⟩ := hy
    rw [List.getElem?_map] at hx
    cases er : rs[i]? with
    | none => rw [er] at hx; cases hx
    | some r =>
      rw [er] at hx
      have hx : V.ref r = x := Option.some.inj hx
      subst hx
      have hr := h.row i r er
      refine ⟨Ex.refl _, Ex.refl _, hw _, fun _ _ Q q => htt _ _ _ (q _ (Ex.refl _)), fun _ => ed_tupleOf (es_ints (ev_var (hj _)) (e3 _ _ (e2 _ _ (e1 _ _ hr))))⟩
  · have := range_fm rows (fun _ => true) dInts []
    rw [List.filter_eq_self.mpr (fun _ _ => rfl)] at this ⊢
    rw [this, List.filter_eq_self.mpr (fun _ _ => rfl)]
/-- for over a new list of data -/
theorem s_forLD (hs : ELD tl σ H ds) (Pv : Addr → List V → Nat → L2.St → Hp → Prop) (h0 : ∀ p xs H1, H p = none → Ex H H1 → H1 p = some (.lst xs) → DtA H1 ds xs → Pv p xs 0 σ H1)
    (hl : ∀ p xs i σ' H', i ≤ ds.length → Pv p xs i σ' H' → H' p = some (.lst xs) ∧ DtA H' ds xs)
    (turn : ∀ p xs i d v σ' H', ds[i]? = some d → Dt H' d v → Pv p xs i σ' H' → g v σ' H' fun σ2 H2 => tu { D with nx := Pv p xs (i + 1), ct := Pv p xs (i + 1), bk := D.nx } σ2 H2)
    (hd : ∀ p xs σ' H', Pv p xs ds.length σ' H' → D.nx σ' H') : tFor (iSq K tl) g tu D σ H :=
  hs H (Ex.refl H) _ fun p xs H1 hp e1 h1 hx => by
    have hlen := hx.len
    refine ⟨false, p, rfl, ⟨xs, SqL.of h1⟩, for_it (walk_sq (f := false) (xs := xs)) (Pv p xs) (h0 p xs H1 hp e1 h1 hx) (fun i σ' H' hi q => SqL.of (hl p xs i σ' H' (by omega) q).1) (fun i x σ' H2 H3 hi q hy => ?_) fun σ' H' q => hd p xs σ' H' (by rw [← hlen]; exact q)⟩
    obtain ⟨rfl, hx'⟩ := hy
    obtain ⟨_, q2⟩ := hl p xs i σ' H3 (by omega) q
    obtain ⟨d, h1, h2⟩ := q2.get' hx'
    exact turn p xs i d x σ' H3 h1 h2 q
theorem q_forLD (hs : ELD tl σ H ds) (Pv : Addr → List V → Nat → L2.St → Hp → Prop) (h0 : ∀ p xs H1, H p = none → Ex H H1 → H1 p = some (.lst xs) → DtA H1 ds xs → Pv p xs 0 σ H1)
    (hl : ∀ p xs i σ' H', i ≤ ds.length → Pv p xs i σ' H' → H' p = some (.lst xs) ∧ DtA H' ds xs)
    (turn : ∀ p xs i d v σ' H', ds[i]? = some d → Dt H' d v → Pv p xs i σ' H' → g v σ' H' fun σ2 H2 => tu { D with nx := Pv p xs (i + 1), ct := Pv p xs (i + 1), bk := tz D } σ2 H2)
    (hd : ∀ p xs σ' H', Pv p xs ds.length σ' H' → tz D σ' H') : tSeq (tFor (iSq K tl) g tu) tz D σ H := s_forLD (D := { D with nx := tz D }) hs Pv h0 hl turn hd
/-- for over a list of data that stands -/
theorem s_forLv {a : Addr} {xs : List V} (hv : Ev tl σ H (.ref a)) (ha : H a = some (.lst xs)) (hx : DtA H ds xs) (Pv : Nat → L2.St → Hp → Prop) (h0 : ∀ H1, Ex H H1 → Pv 0 σ H1)
    (hl : ∀ i σ' H', i ≤ ds.length → Pv i σ' H' → H' a = some (.lst xs) ∧ DtA H' ds xs)
    (turn : ∀ i d v σ' H', ds[i]? = some d → Dt H' d v → Pv i σ' H' → g v σ' H' fun σ2 H2 => tu { D with nx := Pv (i + 1), ct := Pv (i + 1), bk := D.nx } σ2 H2)
    (hd : ∀ σ' H', Pv ds.length σ' H' → D.nx σ' H') : tFor (iSq K tl) g tu D σ H :=
  hv H (Ex.refl H) _ fun H1 e1 => by
    have hlen := hx.len
    refine ⟨false, a, rfl, ⟨xs, SqL.of (e1 _ _ ha)⟩, for_it (walk_sq (f := false) (xs := xs)) Pv (h0 H1 e1) (fun i σ' H' hi q => SqL.of (hl i σ' H' (by omega) q).1) (fun i x σ' H2 H3 hi q hy => ?_) fun σ' H' q => hd σ' H' (by rw [← hlen]; exact q)⟩
    obtain ⟨rfl, hx'⟩ := hy
    obtain ⟨_, q2⟩ := hl i σ' H3 (by omega) q
    obtain ⟨d, h1, h2⟩ := q2.get' hx'
    exact turn i d x σ' H3 h1 h2 q
theorem q_forLv {a : Addr} {xs : List V} (hv : Ev tl σ H (.ref a)) (ha : H a = some (.lst xs)) (hx : DtA H ds xs) (Pv : Nat → L2.St → Hp → Prop) (h0 : ∀ H1, Ex H H1 → Pv 0 σ H1)
    (hl : ∀ i σ' H', i ≤ ds.length → Pv i σ' H' → H' a = some (.lst xs) ∧ DtA H' ds xs)
    (turn : ∀ i d v σ' H', ds[i]? = some d → Dt H' d v → Pv i σ' H' → g v σ' H' fun σ2 H2 => tu { D with nx := Pv (i + 1), ct := Pv (i + 1), bk := tz D } σ2 H2)
    (hd : ∀ σ' H', Pv ds.length σ' H' → tz D σ' H') : tSeq (tFor (iSq K tl) g tu) tz D σ H := s_forLv (D := { D with nx := tz D }) hv ha hx Pv h0 hl turn hd
/-- a call that gives a new list of data -/
theorem eld_callP {t : TA} {sp : Sp} {P : List V → Hp → Prop} (h : EAP t σ H P) (hs : ∀ vs H1, Ex H H1 → P vs H1 → ∀ Q : VK, (∀ p xs H2, H1 p = none → Ex H1 H2 → H2 p = some (.lst xs) → DtA H2 ds xs → Q (.ref p) H2) → sp vs H1 Q E0) : ELD (tCall sp [] E0 t) σ H ds := fun H1 e1 Q q =>
  h H1 e1 _ fun vs H2 e2 p => by
    rw [List.append_nil]
    exact hs vs H2 (e1.trans e2) p Q fun p xs H3 hp e3 h3 hx => q p xs H3 (fresh_back e2 hp) (e2.trans e3) h3 hx
/-- tuple(xs) of a new list, known as the object it is -/
theorem q_asgFrz {i : Nat} (h : ELD ta σ H ds) (k : ∀ v ys H1, Ex H H1 → PlainT H1 v ys → DtA H1 ds ys → tz D (σ.set i (some v)) H1) : tSeq (tAsg (tCB (rTupQ K) (tCons ta tNil)) (gName i)) tz D σ H :=
  h H (Ex.refl H) _ fun p xs H1 hp e1 h1 hx => .inr ⟨p, xs, rfl, SqL.of h1, fun l o hl ho => k _ xs _ (e1.trans (Ex.new hl)) ⟨l, o, rfl, upd_same, ho⟩ (hx.ex (Ex.new hl))⟩
/-- list(d), d a dict of rows -/
structure DR (H : Hp) (d : Addr) (es : List (Int × Addr)) (nums : Int → List Nat) : Prop where
  at_ : H d = some (.dK (es.map encE))
  nk : (es.map (·.1)).Nodup
  all : ∀ e ∈ es, H e.2 = some (.lst ((nums e.1).map vNat)) ∧ nums e.1 ≠ []
  has : ∀ r, nums r ≠ [] → r ∈ es.map (·.1)
theorem DW.dr {H0 H : Hp} {d : Addr} {es : List (Int × Addr)} {nums : Int → List Nat} (h : DW H0 H d es nums) : DR H d es nums := ⟨h.at_, h.nk, fun e he => (h.all e he).2, h.has⟩
theorem DR.fk {S : Addr → Prop} {d : Addr} {es : List (Int × Addr)} {nums : Int → List Nat} (h : DR H d es nums) (f : Fk S H H') (s : So S H) (n : ∀ e ∈ es, ¬ S e.2) : DR H' d es nums :=
  ⟨f.out s h.at_ (fun z => by rcases z with ⟨_, z⟩ | ⟨_, _, _, z⟩ <;> cases z), h.nk, fun e he => ⟨f _ _ (n e he) (h.all e he).1, (h.all e he).2⟩, h.has⟩
theorem DR.ex {d : Addr} {es : List (Int × Addr)} {nums : Int → List Nat} (h : DR H d es nums) (e : Ex H H') : DR H' d es nums := ⟨e _ _ h.at_, h.nk, fun x hx => ⟨e _ _ (h.all x hx).1, (h.all x hx).2⟩, h.has⟩
theorem eld_keys {d : Addr} {es : List (Int × Addr)} {nums : Int → List Nat} (h : DR H d es nums) (hv : Ev ta σ H (.ref d)) : ELD (tCB (rLstQ K) (tCons ta tNil)) σ H ((es.map (·.1)).map PyData.int) := fun H1 e1 Q q =>
  hv H1 e1 _ fun H2 e2 => .inr ⟨d, es.map encE, rfl, e2 _ _ (e1 _ _ h.at_), fun l hl => by
    have e : (es.map encE).map (fun kv => kV kv.1) = (es.map (·.1)).map V.int := by rw [List.map_map, List.map_map] <;> rfl
    rw [e]
    exact q l _ _ (fresh_back e2 hl) (e2.trans (Ex.new hl)) upd_same (dta_ints _)⟩
theorem es_dr {d : Addr} {es : List (Int × Addr)} {nums : Int → List Nat} {r : Int} (h : DR H d es nums) (hv : Ev ta σ H (.ref d)) (hr : Ev tb σ H (.int r)) (hn : nums r ≠ []) : ES (tDGet ta tb) σ H ((nums r).map iN) := fun H1 e1 Q q =>
  hv H1 e1 _ fun H2 e2 => hr H2 (e1.trans e2) _ fun H3 e3 => by
    obtain ⟨e, he, rfl⟩ := List.mem_map.mp (h.has r hn)
    have e03 := (e1.trans e2).trans e3
    refine ⟨d, .ref e.2, rfl, .inl ⟨es.map encE, .inl e.1, .inl (e03 _ _ h.at_), rfl, (val_of h.nk (show (e.1, e.2) ∈ es from he)).symm⟩, ?_⟩
    exact q false e.2 _ H3 (e2.trans e3) (e03 _ _ (h.all e he).1) (dt_map (f := iN) (g := vNat) fun _ _ => rfl)
end
/-- the roads at which letters wait, in their order -/
theorem roads_sorted {W : Web} {cs : List Card} {t : Nat} {g : G} {H : Hp} {d : Addr} {es : List (Int × Addr)} (h : DR H d es (numsAt W cs g ((t + 1 : Nat) : Int))) (G0 : GOk cs t g) (cok : CsOk W cs) :
    sortI (es.map (·.1)) = (roadsAt W cs g ((t + 1 : Nat) : Int)).map fun r : Nat => (r : Int) := by
  have pw : (roadsAt W cs g ((t + 1 : Nat) : Int)).Pairwise (· < ·) := List.pairwise_lt_range.sublist List.filter_sublist
  refine sortI_is ?_ (List.pairwise_map.mpr (pw.imp fun {a b} h => by omega))
  refine (List.perm_ext_iff_of_nodup h.nk (List.pairwise_map.mpr (pw.imp fun {a b} h z => by omega))).mpr fun r => ⟨fun hr => ?_, fun hr => ?_⟩
  · obtain ⟨e, he, rfl⟩ := List.mem_map.mp hr
    have hne := (h.all e he).2
    obtain ⟨n, hn⟩ : ∃ n, n ∈ numsAt W cs g ((t + 1 : Nat) : Int) e.1 := by
      cases q : numsAt W cs g ((t + 1 : Nat) : Int) e.1 with
      | nil => exact absurd q hne
      | cons x y => exact ⟨x, List.mem_cons_self ..⟩
    have hx : ∃ x : Nat, (x : Int) = e.1 := by
      have h2 := (List.mem_filter.mp hn).2
      have h2 := of_decide_eq_true h2
      cases q : due W ((lets cs).getD n ([], 0)) (g.rows.getD n []) ((t + 1 : Nat) : Int) with
      | none => rw [q] at h2; cases h2
      | some x =>
        rw [q] at h2
        exact ⟨x, Option.some.inj h2⟩
    obtain ⟨x, hx⟩ := hx
    rw [← hx] at hn hne ⊢
    obtain ⟨h1, _, _, h4⟩ := waits_ok G0 hn
    exact List.mem_map.mpr ⟨x, List.mem_filter.mpr ⟨List.mem_range.mpr (cok.way _ (getD_mem h1) x h4), by rw [decide_eq_false hne] <;> rfl⟩, rfl⟩
  · obtain ⟨x, hx, rfl⟩ := List.mem_map.mp hr
    have := (List.mem_filter.mp hx).2
    exact h.has _ (by simpa using this)
end Z
/-! Dh: _law_play. -/
namespace Z
open PySem PySem.Spec PyProof.Rows L2 Evl

section
variable {K : PySem.W.Frag} {σ : L2.St} {H H' : Hp} {tl ta tb te : TE} {tt : TT} {D : Ends} {tu tz : TS} {g : TG} {ds : List PyData} {i j : Nat} {vs : List Nat}
theorem q_asgRows {α : Type} (l : List α) (enc : α → PyData) (hs : ES tl σ H (l.map enc)) (hw : ∀ x, wipe ((wipe σ vs).set j (some x)) vs = wipe σ vs) (htt : ∀ σ' H' Q, Q true H' → tt σ' H' Q) (hn : l.length ≤ 50000)
    (q : ∀ p rs H2, H p = none → Ex H H2 → RowsAt H2 p rs (l.map fun _ => []) → (∀ r ∈ rs, H r = none) → p ∉ rs → tz D (σ.set i (some (.ref p))) H2) : tSeq (tAsg (tLc (iSq K tl) (gName j) tt (tLst tNil) vs) (gName i)) tz D σ H :=
  er_new (Q := fun x H1 => tz D (σ.set i (some x)) H1) l enc hs hw htt hn q
theorem s_appLD {l : Addr} {xs : List V} (hl : H l = some (.lst xs)) (ha : Ev ta σ H (.ref l)) (h : ELD te σ H ds) (hz : xs.length < 100000)
    (k : ∀ p vs H1, H p = none → Ex H H1 → H1 p = some (.lst vs) → DtA H1 ds vs → D.nx σ (upd H1 l (.lst (xs ++ [.ref p])))) : tDrop (tBM K "list" rAppend ta (tCons te tNil)) D σ H := ha H (Ex.refl H) _ fun H1 e1 =>
  ⟨Or.inl ⟨rfl, xs, sq_of (e1 l _ hl)⟩, h H1 e1 _ fun p vs H2 hp e2 h2 hx => ⟨l, xs, .ref p, rfl, rfl, e2 l _ (e1 l _ hl), sz_lt hz, k p vs H2 (fresh_back e1 hp) (e1.trans e2) h2 hx⟩⟩
/-- x = f(..), any promise -/
theorem q_call {P : List V → Hp → Prop} {t : TA} {sp : Sp} (h : EAP t σ H P) (k : ∀ ws H1, Ex H H1 → P ws H1 → sp ws H1 (fun v H2 => tz D (σ.set i (some v)) H2) E0) : tSeq (tAsg (tCall sp [] E0 t) (gName i)) tz D σ H :=
  h H (Ex.refl H) _ fun ws H1 e1 p => by
    show sp (ws ++ []) H1 _ E0
    rw [List.append_nil]
    exact k ws H1 e1 p
/-- ps.extend([.. for .. in src]), src whatever gives a list or tuple of data -/
theorem s_extSrc {src : TE} {Good : Addr → Hp → Prop} {pp : Addr} {ps : List V} (hl : H pp = some (.lst ps)) (hi : σ[i]? = some (some (.ref pp))) (hsrc : ∀ Qs : VK, (∀ b H1, Good b H1 → Qs (.ref b) H1) → src σ H Qs)
    (hlc : ∀ b H1, Good b H1 → ELD (tLc (iSq K (tC (.ref b))) g tt te vs) σ H1 ds)
    (k : ∀ b H1 p2 vs2 H2, Good b H1 → H1 p2 = none → Ex H1 H2 → H2 p2 = some (.lst vs2) → DtA H2 ds vs2 → H2 pp = some (.lst ps) ∧ ps.length + vs2.length ≤ 100000 ∧ D.nx σ (upd H2 pp (.lst (ps ++ vs2)))) :
    tDrop (tBM K "list" rExtend (tVar i) (tCons (tLc (iSq K src) g tt te vs) tNil)) D σ H := by
  refine ⟨.ref pp, hi, .inl ⟨rfl, ps, SqL.of hl⟩, hsrc _ fun b H1 hb => ?_⟩
  have q := (hlc b H1 hb) H1 (Ex.refl _) (fun x H1 => tNil σ H1 fun xs H2 => rExtend (.ref pp) (x :: xs) H2 fun x H1 => D.nx σ H1) fun p2 vs2 H2 hp e h hx => by
    obtain ⟨a1, a2, a3⟩ := k b H1 p2 vs2 H2 hb hp e h hx
    exact ⟨pp, p2, ps, vs2, rfl, rfl, a1, h, by rw [sizeLine_eq]; omega, a3⟩
  exact q
theorem RowsAt.fk2 {S : Addr → Prop} {a : Addr} {rs : List Addr} {rows : List (List Int)} (h : RowsAt H a rs rows) (f : Fk S H H') (n : ¬ S a) (m : ∀ r ∈ rs, ¬ S r) : RowsAt H' a rs rows := f.rows n m h
theorem RowsAt.mem {a : Addr} {rs : List Addr} {rows : List (List Int)} {r : Addr} (h : RowsAt H a rs rows) (hr : r ∈ rs) : ∃ xs, H r = some (.lst xs) := by
  obtain ⟨i, e⟩ := List.mem_iff_getElem?.mp hr
  exact ⟨_, h.row i r e⟩
end
theorem asks_len {o : Who} {cs : List Card} {sight : Int} (wok : WebOk o.W) : ∀ t, (asksTo o cs sight t).length ≤ 7 * t
  | 0 => Nat.le_refl _
  | t + 1 => by
    have ih := asks_len (o := o) (cs := cs) (sight := sight) wok t
    unfold asksTo at ih ⊢
    rw [List.range_succ, List.flatMap_append, List.length_append]
    have h2 := List.length_filter_le (fun r : Nat => !decide (numsAt o.W cs (gAt o cs sight t) ((t + 1 : Nat) : Int) (r : Int) = [])) (List.range o.W.roads.length)
    rw [List.length_range] at h2
    have h3 := wok.r7
    have h4 : (List.flatMap (fun i => asksOf o.W cs sight ((i + 1 : Nat) : Int) (gAt o cs sight i)) [t]).length ≤ 7 := by
      rw [List.flatMap_singleton]
      unfold asksOf roadsAt
      rw [List.length_map]
      omega
    omega
theorem asks_succ (o : Who) (cs : List Card) (sight : Int) (t : Nat) : asksTo o cs sight (t + 1) = asksTo o cs sight t ++ (roadsAt o.W cs (gAt o cs sight t) ((t + 1 : Nat) : Int)).map (askAt o.W cs sight ((t + 1 : Nat) : Int) (gAt o cs sight t)) := by
  unfold asksTo
  rw [List.range_succ, List.flatMap_append, List.flatMap_singleton]
  rfl
theorem take_snoc {α : Type} {l : List α} {i : Nat} {x : α} (h : l[i]? = some x) : l.take (i + 1) = l.take i ++ [x] := by
  rw [List.take_add_one, h] <;> rfl
theorem al_pass {ps : List Pass} : PySem.W.AllAlike (ps.map dPass) := .of fun b b' => by simp [dPass, PySem.W.alike, PySem.W.alikeAll]
theorem so_pass {ps : List Pass} : PySem.W.Sortable (ps.map dPass) := .tuples fun b => ⟨_, _, rfl⟩
theorem de_pass (p : Pass) : (dPass p).depth ≤ 8 := by simp [dPass, PyData.depth, PyData.depthAll]
theorem de_int (i : Int) : (PyData.int i).depth ≤ 8 := by simp [PyData.depth]

/-- what stays through the play -/
structure PCore (H0 : Hp) (f g l a : Addr) (N L : LF) (o : Who) (cs : List Card) (cv : V) (lp : Addr) (pst : List Pass) (pv : V) (H : Hp) : Prop where
  nt : NotAt H f g l a N L o
  cards : Dt H (dCards cs) cv
  lets : SqD H (.ref lp) ((lets cs).map dLet)
  lpl : ∃ xs, H lp = some (.lst xs)
  past : Dt H (dPast pst) pv
  fr : Fr1 l H0 H
theorem PCore.fk {S : Addr → Prop} {H0 H H' : Hp} {f g l a lp : Addr} {N L : LF} {o : Who} {cs : List Card} {cv pv : V} {pst : List Pass} (h : PCore H0 f g l a N L o cs cv lp pst pv H) (k : Fk S H H') (s : So S H)
    (n : ∀ b, S b → b ≠ a ∧ b ≠ lp ∧ (b = l ∨ H0 b = none)) : PCore H0 f g l a N L o cs cv lp pst pv H' := by
  have nlp : ¬ S lp := fun z => (n lp z).2.1 rfl
  obtain ⟨ff, b, vs, e, h1, h2⟩ := h.lets
  cases e
  obtain ⟨xs, hxs⟩ := h.lpl
  refine ⟨k.notAt s (fun z => (n a z).1 rfl) h.nt, h.cards.tk (k.tk s), ⟨ff, lp, vs, rfl, ?_, h2.tk (k.tk s)⟩, ⟨xs, k _ _ nlp hxs⟩, h.past.tk (k.tk s), fun b o hb ho => ?_⟩
  · cases ff with
    | false => exact k _ _ nlp h1
    | true => exact (k.tk s) _ _ h1
  · refine k b o (fun z => ?_) (h.fr b o hb ho)
    rcases (n b z).2.2 with q | q
    · exact hb q
    · rw [q] at ho
      cases ho
theorem PCore.ex {H0 H H' : Hp} {f g l a lp : Addr} {N L : LF} {o : Who} {cs : List Card} {cv pv : V} {pst : List Pass} (h : PCore H0 f g l a N L o cs cv lp pst pv H) (e : Ex H H') : PCore H0 f g l a N L o cs cv lp pst pv H' :=
  h.fk (S := fun _ => False) (Fk.of e) (fun _ _ z => z.elim) fun _ z => z.elim

def spPlay : Sp := fun vs H Q _ => ∃ (a f g l : Addr) (N L : LF) (o : Who) (cv : V) (cs : List Card) (sight : Int) (last : Nat), vs = [.ref a, cv, .int sight, .ref f, .int (last : Int)] ∧ NotAt H f g l a N L o ∧ Dt H (dCards cs) cv ∧ H l = some (.lst []) ∧ CsOk o.W cs ∧ 0 ≤ sight ∧ 1 ≤ last ∧ last ≤ 440 ∧
  ∀ (p q : Addr) (vs xs ts : List V) (H' : Hp), Fr1 l H H' → H' l = some (.lst ts) → DtA H' ((asksTo o cs sight last).map dAsked) ts → H p = none → H q = none → H' p = some (.lst vs) → vs.getLast? = some (.ref q) → H' q = some (.lst xs) → DtA H' ((gAt o cs sight last).rows.map dInts) xs → Q (.ref p) H'
abbrev s_l_play : Stmt := top 49
abbrev N_l_play : List Str := ["_law_web_here", "_law_cards_here", "_law_sight", "_law_choose", "_law_last", "_law_rows", "_law_letters", "_law_past", "_law_found", "_law_tick", "_law_waits_here", "_law_seen", "_law_passed", "_law_road", "_law_card", "_law_when", "_law_number", "_law_row"]
theorem sc_l_play : FnScope N_l_play ["_law_web_here", "_law_cards_here", "_law_sight", "_law_choose", "_law_last"] (defScope s_l_play) := ⟨rfl, rfl, rfl, by decide +kernel, rfl, by decide +kernel, by decide +kernel⟩
section
variable {P : Program} {w : World} {K : PySem.W.Frag} {mg : Str → Option Value} {base : Heap}
theorem ok_l_play {fa : Addr} {fd : FuncData} (F : Fun K "_law_play" "_law_play" s_l_play fa fd) (B : Bl mg) (RN : Runs P w K mg base 4 RNot) (c_l_waits : Cal P w K mg base "_law_waits" 2 ["_law_web_here", "_law_letters", "_law_rows", "_law_tick"] spWaits)
    (c_l_first : Cal P w K mg base "_law_first" 1 ["_law_cards_here", "_law_tick"] spFirst) : FnOk P w K mg base CX0 5 fa fd ["_law_web_here", "_law_cards_here", "_law_sight", "_law_choose", "_law_last"] spPlay := by
  refine F.ok sc_l_play (fun vs H Q E h => ?_) (fun cdv A outer s H vs Q E hr h => ?_)
  · obtain ⟨a, f, g, l, N, L, o, cv, cs, sight, last, rfl, _⟩ := h
    rfl
  · obtain ⟨a, f, g, l, N, L, o, cv, cs, sight, last, rfl, hN, hc, hl, cok, hsi, h1, h440, k⟩ := h
    have hu64 := hr.units
    have hu := hu_of hr
    have hr_clo := hr
    have wok : WebOk o.W := hN.str.2.2.2
    refine ⟨_, (pss_cons (ps_setLc (i := 5) (own := [("_law_card", 14)]) rfl sc_l_play.nd rfl rfl (sw_true rfl rfl rfl (by decide +kernel)) (k_sq (K := K) (pv 1)) (blkOk_by (N := N_l_play) (sc := defScope s_l_play) (by decide +kernel)) (fun _ _ _ _ _ => (pg_name (i := 14) sc_l_play.nd rfl (.inl rfl))) (fun _ _ _ _ _ => pts_nil) (fun _ _ _ _ _ => (pe_lst pa_nil)))
    (pss_cons (ps_setLc (i := 6) (own := [("_law_card", 14)]) rfl sc_l_play.nd rfl rfl (sw_true rfl rfl rfl (by decide +kernel)) (k_sq (K := K) (pv 1)) (blkOk_by (N := N_l_play) (sc := defScope s_l_play) (by decide +kernel)) (fun _ _ _ _ _ => (pg_name (i := 14) sc_l_play.nd rfl (.inl rfl))) (fun _ _ _ _ _ => pts_nil) (fun _ _ _ _ _ => (pe_slice (kSl (K := K)) (pv 14) po_none (po_some pe_int))))
    (pss_cons (ps_set (i := 7) sc_l_play.nd rfl (.inl rfl) (pe_tup pa_nil))
    (pss_cons (ps_set (i := 8) sc_l_play.nd rfl (.inl rfl) (pe_lst pa_nil))
    (pss_cons (ps_for PassesOwn.never rfl (pi_range2 (by rfl) B.range (pa_cons pe_int (pa_cons (pe_op (kAdd (K := K)) (pv 4) pe_int) pa_nil))) (pg_name (i := 9) sc_l_play.nd rfl (.inr rfl))
    (pss_cons (ps_set (i := 10) sc_l_play.nd rfl (.inl rfl) (pe_callC c_l_waits (hr.mono (by decide)) (by rfl) (pa_cons (pv 0) (pa_cons (pv 6) (pa_cons (pv 5) (pa_cons (pv 9) pa_nil))))))
      (pss_cons (ps_set (i := 11) sc_l_play.nd rfl (.inl rfl) (pe_callTy (kTup (K := K)) (by rfl) B.tuple b_tuple (pa_cons (pe_callC c_l_first (hr.mono (by decide)) (by rfl) (pa_cons (pv 1) (pa_cons (pe_op (kAdd (K := K)) (pv 9) (pv 2)) pa_nil))) pa_nil)))
      (pss_cons (ps_set (i := 12) sc_l_play.nd rfl (.inl rfl) (pe_lst pa_nil))
      (pss_cons (ps_for PassesOwn.never rfl (k_sq (K := K) (pe_callB (kSortD (K := K) hu64) (by rfl) B.sorted b_sorted (pa_cons (pe_callTy (kLst (K := K)) (by rfl) B.list b_list (pa_cons (pv 10) pa_nil)) pa_nil))) (pg_name (i := 13) sc_l_play.nd rfl (.inr rfl))
      (pss_one (ps_expr (pe_bm PySem.F.plainAttrs_list PySem.F.slot_list_extend PySem.F.type_list_extend mt_extend (pv 12) (pa_cons (pe_lc (own := [("_law_number", 16)]) rfl sc_l_play.nd (k_sq (K := K) (pe_cloN (i := 3) RN hr_clo rfl (by first | exact .inl rfl | exact .inr (.inl rfl) | exact .inr (.inr rfl)) (pa_cons (pv 13) (pa_cons (pv 9) (pa_cons (pe_callTy (kTup (K := K)) (by rfl) B.tuple b_tuple (pa_cons (pe_dget hu (pv 10) (pv 13) (fun _ _ => rfl)) pa_nil)) (pa_cons (pv 11) (pa_cons (pv 7) pa_nil))))))) (blkOk_by (N := N_l_play) (sc := defScope s_l_play) (by decide +kernel)) (fun _ _ _ _ _ => (pg_name (i := 16) sc_l_play.nd rfl (.inl rfl))) (fun _ _ _ _ _ => pts_nil) (fun _ _ _ _ _ => (pe_tup (pa_cons (pv 9) (pa_cons (pv 13) (pa_cons (pv 16) pa_nil)))))) pa_nil)))))
      (pss_cons (ps_for PassesOwn.never rfl (k_sq (K := K) (pv 12)) (k_tup (K := K) (n := 3) (by rfl) (pgs_cons (pg_name (i := 15) sc_l_play.nd rfl (.inl rfl)) (pgs_cons (pg_name (i := 13) sc_l_play.nd rfl (.inr rfl)) (pgs_cons (pg_name (i := 16) sc_l_play.nd rfl (.inl rfl)) pgs_nil))))
      (pss_one (ps_expr (pe_bm PySem.F.plainAttrs_list PySem.F.slot_list_append PySem.F.type_list_append mt_append (pe_ix (kIx (K := K)) (pv 5) (pv 16) (fun _ _ => rfl)) (pa_cons (pv 9) pa_nil)))))
      (pss_cons (ps_set (i := 7) sc_l_play.nd rfl (.inl rfl) (pe_op (kAdd (K := K)) (pv 7) (pe_callTy (kTup (K := K)) (by rfl) B.tuple b_tuple (pa_cons (pe_callB (kSortD (K := K) hu64) (by rfl) B.sorted b_sorted (pa_cons (pv 12) pa_nil)) pa_nil))))
      (pss_one (ps_expr (pe_bm PySem.F.plainAttrs_list PySem.F.slot_list_append PySem.F.type_list_append mt_append (pv 8) (pa_cons (pe_lc (own := [("_law_row", 17)]) rfl sc_l_play.nd (k_sq (K := K) (pv 5)) (blkOk_by (N := N_l_play) (sc := defScope s_l_play) (by decide +kernel)) (fun _ _ _ _ _ => (pg_name (i := 17) sc_l_play.nd rfl (.inl rfl))) (fun _ _ _ _ _ => pts_nil) (fun _ _ _ _ _ => (pe_callTy (kTup (K := K)) (by rfl) B.tuple b_tuple (pa_cons (pv 17) pa_nil)))) pa_nil)))))))))))
    (pss_one (ps_ret (pv 8)))))))), ?_⟩
    refine q_asgRows cs dCard (ED.es (ed_var rfl hc)) (fun _ => rfl) (fun _ _ _ q => q) (by have := cok.n; omega) fun rp rs H1 hrp e1 hR hrs hprs => ?_
    refine q_asgLD (eld_all cs dCard (fun c => dLet (c.way, c.come)) (ED.es (ed_var rfl (hc.ex e1))) mono_name (by have := cok.n; omega) fun c v H' hcm e hd => ⟨Ex.refl _, rfl, fun _ _ _ q => q _ (Ex.refl _), ed_cut (k := 2) (ed_var rfl hd) (eo_some ev_c)⟩) fun lp lxs H2 hlp e2 h2 hx2 => ?_
    refine q_asgD (ed_tup ead_nil (by decide)) fun pv H3 e3 hpv => ?_
    refine q_asgLD (eld_lst ead_nil (by decide)) fun fp vs H4 hfp e4 h4 hx4 => ?_
    have hx4 : vs = [] := hx4
    subst hx4
    have wa : ∃ xs, H a = some (.lst xs) := by
      obtain ⟨xs, z, _⟩ := hN.str.2.2.1
      exact ⟨xs, z⟩
    obtain ⟨axs, haw⟩ := wa
    have e24 := e3.trans e4
    have e14 := (e2.trans e3).trans e4
    have e04 := e1.trans e14
    have core0 : PCore H f g l a N L o cs cv lp [] pv H4 := ⟨Fk.notAt (S := fun _ => False) (Fk.of e04) (fun _ _ z => z.elim) (fun z => z) hN, hc.ex e04, ⟨false, lp, lxs, rfl, e24 _ _ h2, by
      have q := hx2.ex e24
      unfold lets
      rw [List.map_map]
      exact q⟩, ⟨lxs, e24 _ _ h2⟩, hpv.ex e4, Fr1.of e04⟩
    have rows0 : RowsAt H4 rp rs (gAt o cs sight 0).rows := hR.ex e14
    have hl4 : H4 l = some (.lst []) := e04 _ _ hl
    -- apart
    have lrs : l ∉ rs := fun z => by rw [hrs l z] at hl; cases hl
    have ars : a ∉ rs := fun z => by rw [hrs a z] at haw; cases haw
    have lprs : lp ∉ rs := fun z => by
      obtain ⟨xs, q⟩ := hR.mem z
      rw [hlp] at q
      cases q
    have fprs : fp ∉ rs := fun z => by
      obtain ⟨xs, q⟩ := hR.mem z
      rw [(e2.trans e3) _ _ q] at hfp
      cases hfp
    have rpl : rp ≠ l := fun z => by rw [z, hl] at hrp; cases hrp
    have lpl : lp ≠ l := fun z => by rw [z, e1 _ _ hl] at hlp; cases hlp
    have fpl : fp ≠ l := fun z => by rw [z, (e1.trans (e2.trans e3)) _ _ hl] at hfp; cases hfp
    have fpa : fp ≠ a := fun z => by rw [z, (e1.trans (e2.trans e3)) _ _ haw] at hfp; cases hfp
    have fprp : fp ≠ rp := fun z => by rw [z, (e2.trans e3) _ _ hR.at_] at hfp; cases hfp
    have fplp : fp ≠ lp := fun z => by rw [z, e3 _ _ h2] at hfp; cases hfp
    have al : a ≠ l := hN.al
    have fp0 : H fp = none := fresh_back (e1.trans (e2.trans e3)) hfp
    clear hR e24 h2 hx2 hc hpv e2 e1 e3 e4 e14
    -- the ticks
    refine q_forR2 (lo := 1) (n := (last : Int) + 1) (ea_cons ev_c (ea_cons (ev_add (ev_var rfl) ev_c) ea_nil)) (by omega) (fun t σ' H' => ∃ pv o9 o10 o11 o12 o13 o14 o15 o16 o17 vs ts, σ' = [some (V.ref a), some cv, some (V.int sight), some (V.ref f), some (V.int (last : Int)), some (V.ref rp), some (V.ref lp), some pv, some (V.ref fp), o9, o10, o11, o12, o13, o14, o15, o16, o17] ∧
      PCore H f g l a N L o cs cv lp (gAt o cs sight t).past pv H' ∧ RowsAt H' rp rs (gAt o cs sight t).rows ∧ H' l = some (.lst ts) ∧ DtA H' ((asksTo o cs sight t).map dAsked) ts ∧ H' fp = some (.lst vs) ∧ vs.length = t ∧
      (1 ≤ t → ∃ q xs, H q = none ∧ vs.getLast? = some (.ref q) ∧ H' q = some (.lst xs) ∧ DtA H' ((gAt o cs sight t).rows.map dInts) xs)) (fun H5 e5 => ?_) (fun t σ' H5 ht p => ?_) fun σ' H5 p => ?_
    · exact ⟨pv, none, none, none, none, none, none, none, none, none, [], [], rfl, core0.ex e5, rows0.ex e5, e5 _ _ hl4, rfl, e5 _ _ h4, rfl, fun z => absurd z (by decide)⟩
    · obtain ⟨pv, o9, o10, o11, o12, o13, o14, o15, o16, o17, vs, ts, rfl, co, hR, hlt, hts, hf, hvl, _⟩ := p
      have et : (1 : Int) + (t : Int) = ((t + 1 : Nat) : Int) := by omega
      rw [et]
      show tSeq _ _ _ [some (V.ref a), some cv, some (V.int sight), some (V.ref f), some (V.int (last : Int)), some (V.ref rp), some (V.ref lp), some pv, some (V.ref fp), some (V.int ((t + 1 : Nat) : Int)), o10, o11, o12, o13, o14, o15, o16, o17] _
      have G0 := gAt_ok o cs sight wok t
      have t440 : t ≤ 440 := by omega
      have alen := asks_len (o := o) (cs := cs) (sight := sight) wok t
      have tlen := hts.len
      rw [List.length_map] at tlen
      -- waits
      refine q_call (eap_v (ev_var rfl) (eap_v (ev_var rfl) (eap_v (ev_var rfl) (eap_v (ev_var rfl) eap_nil)))) fun ws H6 e6 hp => ?_
      obtain ⟨_, rfl, _, rfl, _, rfl, _, rfl, rfl⟩ := hp
      refine ⟨a, rp, .ref lp, rs, o.W, lets cs, (gAt o cs sight t).rows, ((t + 1 : Nat) : Int), rfl, co.nt.str.2.2.1.ex e6, co.lets.ex e6, hR.ex e6, G0.fit wok cok, by rw [lets_len]; exact cok.n, fun d H7 es dw hel => ?_⟩
      rw [lets_len] at dw hel
      have e57 := e6.trans dw.ex
      have dr : DR H7 d es (numsAt o.W cs (gAt o cs sight t) ((t + 1 : Nat) : Int)) := dw.dr
      have es0 : ∀ e ∈ es, H6 e.2 = none := fun e he => (dw.all e he).1
      have co := co.ex e57
      have hR := hR.ex e57
      have hlt := e57 _ _ hlt
      have hts := hts.ex e57
      have hf := e57 _ _ hf
      have esl : ∀ e ∈ es, e.2 ≠ l := fun e he z => by
        have := es0 e he
        rw [z] at this
        have q : H6 l = some (.lst ts) := e6 _ _ (by assumption)
        rw [this] at q
        cases q
      clear dw e57 es0 e6
      -- seen
      refine q_asgFrz (ds := (seenAt cs (((t + 1 : Nat) : Int) + sight)).map dSeen1) ?_ fun sv ys H8 e8 hpl hys => ?_
      · refine eld_callP (eap_d (ed_var rfl co.cards) (eap_v (ev_add (ev_var rfl) (ev_var rfl)) eap_nil)) fun ws H8 e8 hp Q hQ => ?_
        obtain ⟨x, _, rfl, hx, _, rfl, rfl⟩ := hp
        exact ⟨x, cs, _, rfl, hx, cok.n, hQ⟩
      have hseen : SeenIs H8 sv (seenAt cs (((t + 1 : Nat) : Int) + sight)) := ⟨ys, hpl, hys⟩
      refine q_asgLD (eld_lst ead_nil (by decide)) fun pp _ H9 hpp e9 h9 hx9 => ?_
      cases (hx9 : _ = [])
      have e79 := e8.trans e9
      have ppf : ∀ {b o}, H7 b = some o → pp ≠ b := fun {b o} z q => by
        rw [q, e8 _ _ z] at hpp
        cases hpp
      have ppa : pp ≠ a := fun z => by
        obtain ⟨xs, q, _⟩ := co.nt.str.2.2.1
        exact ppf q z
      have pplp : pp ≠ lp := fun z => by
        obtain ⟨xs, q⟩ := co.lpl
        exact ppf q z
      have ppl : pp ≠ l := ppf hlt
      have pprp : pp ≠ rp := ppf hR.at_
      have ppfp : pp ≠ fp := ppf hf
      have pprs : pp ∉ rs := fun z => by
        obtain ⟨xs, q⟩ := hR.mem z
        exact ppf q rfl
      have ppes : ∀ e ∈ es, e.2 ≠ pp := fun e he z => ppf (dr.all e he).1 z.symm
      have pp0 : H pp = none := by
        cases q : H pp with
        | none => rfl
        | some u =>
          have := co.fr pp u ppl q
          exact absurd rfl (ppf this)
      have co := co.ex e79
      have hR := hR.ex e79
      have hlt := e79 _ _ hlt
      have hts := hts.ex e79
      have hf := e79 _ _ hf
      have dr := dr.ex e79
      have hseen := hseen.ex e9
      clear e79 e8 hpl hys hpp e9 ppf
      show tSeq _ _ _ [some (V.ref a), some cv, some (V.int sight), some (V.ref f), some (V.int (last : Int)), some (V.ref rp), some (V.ref lp), some pv, some (V.ref fp), some (V.int ((t + 1 : Nat) : Int)), some (V.ref d), some sv, some (V.ref pp), o13, o14, o15, o16, o17] _
      have hrs2 := roads_sorted dr G0 cok
      have wne : ∀ r, r ∈ roadsAt o.W cs (gAt o cs sight t) ((t + 1 : Nat) : Int) → numsAt o.W cs (gAt o cs sight t) ((t + 1 : Nat) : Int) (r : Int) ≠ [] := fun r hr => by
        have := (List.mem_filter.mp hr).2
        simpa using this
      have rlen := roads_len o.W cs (gAt o cs sight t) ((t + 1 : Nat) : Int)
      have r7 := wok.r7
      refine q_forLD (ds := ((roadsAt o.W cs (gAt o cs sight t) ((t + 1 : Nat) : Int)).map fun r : Nat => (r : Int)).map PyData.int) (ELD.is (eld_sorted (enc := PyData.int) (eld_keys dr (ev_var rfl)) al_ints so_ints fun i _ => de_int i) (congrArg (List.map PyData.int) hrs2))
        (fun p xs j σ' H' => ∃ o13 ps ts', σ' = [some (V.ref a), some cv, some (V.int sight), some (V.ref f), some (V.int (last : Int)), some (V.ref rp), some (V.ref lp), some pv, some (V.ref fp), some (V.int ((t + 1 : Nat) : Int)), some (V.ref d), some sv, some (V.ref pp), o13, o14, o15, o16, o17] ∧
          PCore H f g l a N L o cs cv lp (gAt o cs sight t).past pv H' ∧ RowsAt H' rp rs (gAt o cs sight t).rows ∧ H' l = some (.lst ts') ∧ DtA H' ((asksTo o cs sight t ++ ((roadsAt o.W cs (gAt o cs sight t) ((t + 1 : Nat) : Int)).take j).map (askAt o.W cs sight ((t + 1 : Nat) : Int) (gAt o cs sight t))).map dAsked) ts' ∧
          H' fp = some (.lst vs) ∧ DR H' d es (numsAt o.W cs (gAt o cs sight t) ((t + 1 : Nat) : Int)) ∧ SeenIs H' sv (seenAt cs (((t + 1 : Nat) : Int) + sight)) ∧ H' pp = some (.lst ps) ∧
          DtA H' ((((roadsAt o.W cs (gAt o cs sight t) ((t + 1 : Nat) : Int)).take j).flatMap (passOf o cs sight ((t + 1 : Nat) : Int) (gAt o cs sight t))).map dPass) ps ∧ H' p = some (.lst xs) ∧ DtA H' (((roadsAt o.W cs (gAt o cs sight t) ((t + 1 : Nat) : Int)).map fun r : Nat => (r : Int)).map PyData.int) xs ∧ p ≠ l ∧ p ≠ pp)
        (fun p xs H10 hp0 e10 hp1 hx10 => ⟨o13, [], ts, rfl, co.ex e10, hR.ex e10, e10 _ _ hlt, by
          rw [List.take_zero, List.map_nil, List.append_nil]
          exact hts.ex e10, e10 _ _ hf, dr.ex e10, hseen.ex e10, e10 _ _ h9, rfl, hp1, hx10, (fun z => by rw [z, hlt] at hp0; cases hp0), (fun z => by rw [z, h9] at hp0; cases hp0)⟩)
        (fun p xs j σ' H' _ ⟨o13, ps, ts', _, _, _, _, _, _, _, _, _, _, q1, q2, _⟩ => ⟨q1, q2⟩) (fun p xs j dd v σ' H10 hdj hdv q => ?_) fun p xs σ' H10 q => ?_
      · obtain ⟨o13, ps, ts', rfl, co, hR, hlt, hts, hf, dr, hseen, hpp, hps, hp1, hx10, npl, npp⟩ := q
        rw [List.getElem?_map, List.getElem?_map] at hdj
        cases hrj : (roadsAt o.W cs (gAt o cs sight t) ((t + 1 : Nat) : Int))[j]? with
        | none => rw [hrj] at hdj; cases hdj
        | some r =>
          rw [hrj] at hdj
          cases hdj
          have hdv : v = .int (r : Int) := hdv
          subst hdv
          have hrm := List.mem_of_getElem? hrj
          have hrlt := roads_mem hrm
          have tl2 := hts.len
          have pl2 := hps.len
          rw [List.length_map] at pl2
          rw [List.length_map, List.length_append, List.length_map] at tl2
          have tk1 := List.length_take_le j (roadsAt o.W cs (gAt o cs sight t) ((t + 1 : Nat) : Int))
          have tk2 := List.length_take_le' j (roadsAt o.W cs (gAt o cs sight t) ((t + 1 : Nat) : Int))
          have pk := pass_key (cs := cs) (sight := sight) (tick := ((t + 1 : Nat) : Int)) (g := gAt o cs sight t) wok ((roadsAt o.W cs (gAt o cs sight t) ((t + 1 : Nat) : Int)).take j) fun r hr => roads_mem (List.mem_of_mem_take hr)
          have hplen : (picks o.kind o.salt o.W (askAt o.W cs sight ((t + 1 : Nat) : Int) (gAt o cs sight t) r)).length ≤ 3 := by
            have h3 := wok.rooms _ (getD_mem (x := 0) (i := r) (by rw [wok.lm]; exact hrlt))
            have h4 := pick_len (kind := o.kind) (salt := o.salt) (W := o.W) (road := r) (tick := ((t + 1 : Nat) : Int)) (waiting := numsAt o.W cs (gAt o cs sight t) ((t + 1 : Nat) : Int) r) (seen := seenAt cs (((t + 1 : Nat) : Int) + sight)) (past := (gAt o cs sight t).past) (by omega)
            unfold picks askAt
            dsimp only
            omega
          refine s_extSrc (Good := fun b H12 => ∃ kk ys t' wv H11, Ex H10 H11 ∧ AskAt H11 (askAt o.W cs sight ((t + 1 : Nat) : Int) (gAt o cs sight t) r) wv sv pv ∧ Fr1 l H11 H12 ∧ H12 l = some (.lst (ts' ++ [.ref t'])) ∧ Rd H12 t' (.tup (askV (askAt o.W cs sight ((t + 1 : Nat) : Int) (gAt o cs sight t) r) wv sv pv)) ∧
              Sq0 kk H12 b ys ∧ DtA H12 ((picks o.kind o.salt o.W (askAt o.W cs sight ((t + 1 : Nat) : Int) (gAt o cs sight t) r)).map iN) ys) hpp rfl (fun Qs hQ => ?_) (fun b H12 hgood => ?_) (fun b H12 p2 vs2 H13 hgood hp2 e13 h13 hx13 => ?_) (ds := ((picks o.kind o.salt o.W (askAt o.W cs sight ((t + 1 : Nat) : Int) (gAt o cs sight t) r)).map fun n => dPass (((t + 1 : Nat) : Int), r, n)))
          · refine ⟨f, rfl, ⟨N, co.nt.clo.fn⟩, ?_⟩
            refine (eap_v (ev_var rfl) (eap_v (ev_var rfl) (eap_d (d := dWay (numsAt o.W cs (gAt o cs sight t) ((t + 1 : Nat) : Int) (r : Int))) (ed_tupleOf (es_dr dr (ev_var rfl) (ev_var rfl) (wne r hrm))) (eap_v (ev_var rfl) (eap_v (ev_var rfl) eap_nil))))) H10 (Ex.refl _) _ fun ws H11 e11 hw => ?_
            obtain ⟨_, rfl, _, rfl, wv, _, rfl, hwv, _, rfl, _, rfl, rfl⟩ := hw
            have ask2 : AskAt H11 (askAt o.W cs sight ((t + 1 : Nat) : Int) (gAt o cs sight t) r) wv sv pv := ⟨hwv, hseen.ex e11, co.past.ex e11⟩
            exact ⟨g, l, a, N, L, o, askAt o.W cs sight ((t + 1 : Nat) : Int) (gAt o cs sight t) r, wv, sv, pv, ts', (co.ex e11).nt, rfl, e11 _ _ hlt, by omega, ask_ok G0 cok hsi t440 hrlt, ask2, fun kk b t' ys H12 f12 hl12 ht12 hb hx12 => hQ b H12 ⟨kk, ys, t', wv, H11, e11, ask2, f12, hl12, ht12, hb, hx12⟩⟩
          · obtain ⟨kk, ys, t', wv, H11, e11, ask2, f12, hl12, ht12, hb, hx12⟩ := hgood
            exact eld_all (picks o.kind o.salt o.W (askAt o.W cs sight ((t + 1 : Nat) : Int) (gAt o cs sight t) r)) iN (fun n => dPass (((t + 1 : Nat) : Int), r, n)) (SqD.es ⟨kk, b, ys, rfl, hb, hx12⟩ ev_c) mono_name (by omega) fun n v H' hn e hd => ⟨Ex.refl _, rfl, fun _ _ _ q => q _ (Ex.refl _), ed_tup (ead_cons (edI (ev_var rfl)) (ead_cons (edI (ev_var rfl)) (ead_cons (ed_var rfl hd) ead_nil))) (by show 3 ≤ 100000; decide)⟩
          obtain ⟨kk, ys, t', wv, H11, e11, ask2, f12, hl12, ht12, hb, hx12⟩ := hgood
          have lpp : l ≠ pp := fun z => ppl z.symm
          have f1112 : Fk (fun b => b = l ∨ b = pp) H11 H12 := fun b o n q => f12 b o (fun z => n (.inl z)) q
          have hpp13 : H13 pp = some (.lst ps) := e13 _ _ (f12 _ _ ppl (e11 _ _ hpp))
          have vl := hx13.len
          rw [List.length_map] at vl
          refine ⟨hpp13, by omega, ?_⟩
          have F1 : Fk (fun b => b = l ∨ b = pp) H11 (upd H13 pp (.lst (ps ++ vs2))) := (f1112.trans (Fk.of e13)).trans (Fk.at (.inr rfl))
          have so11 : So (fun b => b = l ∨ b = pp) H11 := fun b u z q => by
            rcases z with rfl | rfl
            · rw [e11 _ _ hlt] at q
              cases q
              exact .inl ⟨_, rfl⟩
            · rw [e11 _ _ hpp] at q
              cases q
              exact .inl ⟨_, rfl⟩
          have tkm : Tk H13 (upd H13 pp (.lst (ps ++ vs2))) := Tk.mut hpp13
          have hl14 : upd H13 pp (.lst (ps ++ vs2)) l = some (.lst (ts' ++ [.ref t'])) := by rw [upd_ne lpp]; exact e13 _ _ hl12
          refine ⟨some (V.int (r : Int)), ps ++ vs2, ts' ++ [.ref t'], rfl, (co.ex e11).fk F1 so11 fun b z => ?_, (hR.ex e11).fk2 F1 ?_ ?_, hl14, ?_, F1 _ _ (fun z => ?_) (e11 _ _ hf), (dr.ex e11).fk F1 so11 fun e he z => ?_, F1.seen so11 (hseen.ex e11), upd_same, ?_, F1 _ _ (fun z => ?_) (e11 _ _ hp1), (hx10.ex e11).tk (F1.tk so11), npl, npp⟩
          · rcases z with rfl | rfl
            · exact ⟨al.symm, lpl.symm, .inl rfl⟩
            · exact ⟨ppa, pplp, .inr pp0⟩
          · exact fun z => z.elim (fun q => rpl q) fun q => pprp q.symm
          · exact fun r' hr' z => z.elim (fun q => lrs (q ▸ hr')) fun q => pprs (q ▸ hr')
          · have e : asksTo o cs sight t ++ ((roadsAt o.W cs (gAt o cs sight t) ((t + 1 : Nat) : Int)).take (j + 1)).map (askAt o.W cs sight ((t + 1 : Nat) : Int) (gAt o cs sight t)) = (asksTo o cs sight t ++ ((roadsAt o.W cs (gAt o cs sight t) ((t + 1 : Nat) : Int)).take j).map (askAt o.W cs sight ((t + 1 : Nat) : Int) (gAt o cs sight t))) ++ [askAt o.W cs sight ((t + 1 : Nat) : Int) (gAt o cs sight t) r] := by
              rw [take_snoc hrj, List.map_append, List.append_assoc] <;> rfl
            rw [e, List.map_append]
            refine ((hts.ex e11).tk (F1.tk so11)).snoc (asked_dt (tkm _ _ (ex_rd e13 ht12)) ⟨ask2.w.tk (F1.tk so11), F1.seen so11 ask2.s, ask2.p.tk (F1.tk so11)⟩)
          · exact z.elim (fun q => fpl q) fun q => ppfp q.symm
          · exact z.elim (fun q => esl e he q) fun q => ppes e he q
          · rw [take_snoc hrj, List.flatMap_append, List.flatMap_singleton, List.map_append]
            refine ((hps.ex e11).tk (F1.tk so11)).app ?_
            unfold passOf
            rw [List.map_map]
            exact hx13.tk tkm
          · exact z.elim (fun q => npl q) fun q => npp q
      · obtain ⟨o13, ps, ts', rfl, co, hR, hlt, hts, hf, dr, hseen, hpp, hps, _⟩ := q
        have el : (((roadsAt o.W cs (gAt o cs sight t) ((t + 1 : Nat) : Int)).map fun r : Nat => (r : Int)).map PyData.int).length = (roadsAt o.W cs (gAt o cs sight t) ((t + 1 : Nat) : Int)).length := by rw [List.length_map, List.length_map]
        rw [el, List.take_length] at hts hps
        rw [← asks_succ] at hts
        have hps : DtA H10 ((passAt o cs sight ((t + 1 : Nat) : Int) (gAt o cs sight t)).map dPass) ps := hps
        have plen := pass_len (cs := cs) (sight := sight) (tick := ((t + 1 : Nat) : Int)) (g := gAt o cs sight t) wok
        -- the rows
        refine q_forLv (ev_var rfl) hpp hps (fun j σ' H' => ∃ o13 o15 o16, σ' = [some (V.ref a), some cv, some (V.int sight), some (V.ref f), some (V.int (last : Int)), some (V.ref rp), some (V.ref lp), some pv, some (V.ref fp), some (V.int ((t + 1 : Nat) : Int)), some (V.ref d), some sv, some (V.ref pp), o13, o14, o15, o16, o17] ∧
          PCore H f g l a N L o cs cv lp (gAt o cs sight t).past pv H' ∧ RowsAt H' rp rs (putAll ((t + 1 : Nat) : Int) (gAt o cs sight t).rows ((passAt o cs sight ((t + 1 : Nat) : Int) (gAt o cs sight t)).take j)) ∧ H' l = some (.lst ts') ∧ DtA H' ((asksTo o cs sight (t + 1)).map dAsked) ts' ∧
          H' fp = some (.lst vs) ∧ H' pp = some (.lst ps) ∧ DtA H' ((passAt o cs sight ((t + 1 : Nat) : Int) (gAt o cs sight t)).map dPass) ps)
          (fun H11 e11 => ⟨o13, o15, o16, rfl, co.ex e11, hR.ex e11, e11 _ _ hlt, hts.ex e11, e11 _ _ hf, e11 _ _ hpp, hps.ex e11⟩)
          (fun j σ' H' _ ⟨o13, o15, o16, _, _, _, _, _, _, q1, q2⟩ => ⟨q1, q2⟩) (fun j dd v σ' H11 hdj hdv q => ?_) fun σ' H11 q => ?_
        · obtain ⟨o13, o15, o16, rfl, co, hR, hlt, hts, hf, hpp, hps⟩ := q
          rw [List.getElem?_map] at hdj
          cases hpj : (passAt o cs sight ((t + 1 : Nat) : Int) (gAt o cs sight t))[j]? with
          | none => rw [hpj] at hdj; cases hdj
          | some p =>
            rw [hpj] at hdj
            cases hdj
            obtain ⟨p1, p2, p3⟩ := pass_mem (List.mem_of_getElem? hpj)
            obtain ⟨n1, n2, _, _⟩ := waits_ok G0 p2
            have hpl := put_len ((t + 1 : Nat) : Int) ((passAt o cs sight ((t + 1 : Nat) : Int) (gAt o cs sight t)).take j) (gAt o cs sight t).rows
            obtain ⟨r, hr1, hr2, hr3⟩ := hR.get (i := p.2.2) (by rw [hpl, G0.len]; exact n1)
            have hrm := List.mem_of_getElem? hr1
            refine g_tup hdv rfl fun ws hws => ?_
            obtain ⟨v1, r1, rfl, hv1, v2, r2, rfl, hv2, v3, r3, rfl, hv3, hr4⟩ := hws
            have hr4 : r3 = [] := hr4
            subst hr4
            have hv3 : v3 = .int (p.2.2 : Int) := hv3
            subst hv3
            refine ⟨v1, _, rfl, v2, _, rfl, _, _, rfl, rfl, ?_⟩
            have hrow := put_le ((t + 1 : Nat) : Int) ((passAt o cs sight ((t + 1 : Nat) : Int) (gAt o cs sight t)).take j) (gAt o cs sight t).rows p.2.2
            have htk := List.length_take_le' j (passAt o cs sight ((t + 1 : Nat) : Int) (gAt o cs sight t))
            have hwl := cok.wl _ (getD_mem (x := card0) n1)
            refine s_app hr2 (ev_ixL (ev_var rfl) hR.at_ (ev_var rfl) hr3) (ev_var rfl) (by rw [List.length_map]; omega) fun H12 e12 => ?_
            have hR12 := (hR.ex e12).app (x := ((t + 1 : Nat) : Int)) hr1 (fun z => hprs z)
            have er : ((putAll ((t + 1 : Nat) : Int) (gAt o cs sight t).rows ((passAt o cs sight ((t + 1 : Nat) : Int) (gAt o cs sight t)).take j)).getD p.2.2 []).map V.int ++ [V.int ((t + 1 : Nat) : Int)] = ((putAll ((t + 1 : Nat) : Int) (gAt o cs sight t).rows ((passAt o cs sight ((t + 1 : Nat) : Int) (gAt o cs sight t)).take j)).getD p.2.2 [] ++ [((t + 1 : Nat) : Int)]).map V.int := by rw [List.map_append] <;> rfl
            rw [er]
            have hr12 := e12 _ _ hr2
            have F2 : Fk (fun b => b = r) H12 (upd H12 r (.lst (((putAll ((t + 1 : Nat) : Int) (gAt o cs sight t).rows ((passAt o cs sight ((t + 1 : Nat) : Int) (gAt o cs sight t)).take j)).getD p.2.2 [] ++ [((t + 1 : Nat) : Int)]).map V.int))) := Fk.at rfl
            have so12 : So (fun b => b = r) H12 := fun b u z q => by
              subst z
              rw [hr12] at q
              cases q
              exact .inl ⟨_, rfl⟩
            refine ⟨some v2, some v1, some (V.int (p.2.2 : Int)), rfl, (co.ex e12).fk F2 so12 fun b z => ?_, ?_, F2 _ _ (fun z => lrs (z ▸ hrm)) (e12 _ _ hlt), (hts.ex e12).tk (F2.tk so12), F2 _ _ (fun z => fprs (z ▸ hrm)) (e12 _ _ hf), F2 _ _ (fun z => pprs (z ▸ hrm)) (e12 _ _ hpp), (hps.ex e12).tk (F2.tk so12)⟩
            · subst z
              exact ⟨fun q => ars (q ▸ hrm), fun q => lprs (q ▸ hrm), .inr (hrs _ hrm)⟩
            · rw [take_snoc hpj, put_snoc]
              exact hR12
        · obtain ⟨o13, o15, o16, rfl, co, hR, hlt, hts, hf, hpp, hps⟩ := q
          rw [List.length_map, List.take_length] at hR
          have hR : RowsAt H11 rp rs (gAt o cs sight (t + 1)).rows := hR
          have tl2 := hts.len
          have gp := G0.past
          -- the past
          refine q_asgD (ed_cat (ds := (gAt o cs sight t).past.map dPass) (es := (sortP (passAt o cs sight ((t + 1 : Nat) : Int) (gAt o cs sight t))).map dPass) (ed_var rfl co.past) (ed_tupleOf (eld_sorted' (enc := dPass) (ev_var rfl) hpp hps al_pass so_pass fun b _ => de_pass b).es) ?_) fun pv' H12 e12 hpv => ?_
          · unfold sortP
            rw [List.length_map, List.length_map, List.length_mergeSort]
            omega
          rw [← List.map_append] at hpv
          have hpv : Dt H12 (dPast (gAt o cs sight (t + 1)).past) pv' := hpv
          have co12 := co.ex e12
          have co2 : PCore H f g l a N L o cs cv lp (gAt o cs sight (t + 1)).past pv' H12 := ⟨co12.nt, co12.cards, co12.lets, co12.lpl, hpv, co12.fr⟩
          have hR := hR.ex e12
          have rl : (gAt o cs sight (t + 1)).rows.length = cs.length := (gAt_ok o cs sight wok (t + 1)).len
          have hf12 := e12 _ _ hf
          have hl12 := e12 _ _ hlt
          -- what was found
          refine s_appLD hf12 (ev_var rfl) (eld_rows (ev_var rfl) hR (fun _ => rfl) (fun _ => rfl) (fun _ _ _ q => q) (by rw [rl]; have := cok.n; omega)) (by omega) fun q xs2 H13 hq e13 h13 hx13 => ?_
          have hf13 := e13 _ _ hf12
          have hl13 := e13 _ _ hl12
          have qfp : q ≠ fp := fun z => by rw [z, hf12] at hq; cases hq
          have F3 : Fk (fun b => b = fp) H13 (upd H13 fp (.lst (vs ++ [.ref q]))) := Fk.at rfl
          have so13 : So (fun b => b = fp) H13 := fun b u z q => by
            subst z
            rw [hf13] at q
            cases q
            exact .inl ⟨_, rfl⟩
          have q0 : H q = none := by
            cases hz : H q with
            | none => rfl
            | some u =>
              have ql : q ≠ l := fun z => by rw [z, hl12] at hq; cases hq
              have := co2.fr q u ql hz
              rw [hq] at this
              cases this
          refine ⟨pv', _, _, _, _, _, _, _, _, _, vs ++ [.ref q], ts', rfl, (co2.ex e13).fk F3 so13 fun b z => ?_, (hR.ex e13).fk2 F3 (fun z => fprp z.symm) fun r hr z => fprs (z ▸ hr), F3 _ _ (fun z => fpl z.symm) hl13, ((hts.ex e12).ex e13).tk (F3.tk so13), upd_same, by rw [List.length_append, hvl] <;> rfl, fun _ => ⟨q, xs2, q0, by simp, F3 _ _ qfp h13, hx13.tk (F3.tk so13)⟩⟩
          subst z
          exact ⟨fpa, fplp, .inr fp0⟩
    · obtain ⟨pv, o9, o10, o11, o12, o13, o14, o15, o16, o17, vs, ts, rfl, co, hR, hlt, hts, hf, hvl, hz⟩ := p
      have en : ((last : Int) + 1 - 1).toNat = last := by omega
      rw [en] at co hR hts hvl hz
      obtain ⟨q, xs, q0, z1, z2, z3⟩ := hz h1
      exact s_ret (ev_var rfl) fun H6 e6 => k fp q vs xs ts H6 (Fr1.trans co.fr (Fr1.of e6)) (e6 _ _ hlt) (hts.ex e6) fp0 q0 (e6 _ _ hf) z1 (e6 _ _ z2) (z3.ex e6)
end
end Z
/-! Pa: the small checks. -/
namespace Z
open PySem PySem.Spec PyProof.Rows L2 Evl

/-! ### isinstance, all, any -/
def tyD : PyData → String
  | .none => "NoneType"
  | .bool _ => "bool"
  | .int _ => "int"
  | .str _ => "str"
  | .tuple _ => "tuple"
  | .list _ => "list"
  | .dict _ => "dict"
theorem dt_ty {K : PySem.W.Frag} {H : Hp} : ∀ {d : PyData} {v : V}, Dt H d v → TyX K H v (.type (tyD d))
  | .none, _, h => by rw [show _ = V.non from h]; exact .base .non
  | .bool b, _, h => by rw [show _ = V.bl b from h]; exact .base (.bl b)
  | .int b, _, h => by rw [show _ = V.int b from h]; exact .base (.int b)
  | .str b, _, h => by rw [show _ = V.str b from h]; exact .base (.str b)
  | .tuple ds, _, ⟨a, xs, e, h, _⟩ => by
    subst e
    rcases h with h | ⟨o, h⟩
    · exact .base (.tup h)
    · exact .fTuple h
  | .list _, _, h => h.elim
  | .dict _, _, h => h.elim
theorem dta_bools {H : Hp} : ∀ {bs : List Bool} {xs : List V}, DtA H (bs.map PyData.bool) xs → xs = bs.map V.bl
  | [], _, h => h
  | b :: bs, _, ⟨v, r, e, h1, h2⟩ => by
    rw [e, show v = V.bl b from h1, dta_bools h2] <;> rfl
section
variable {K : PySem.W.Frag} {σ : L2.St} {H : Hp} {ta tb tc te : TE} {d : PyData}
theorem ev_isi {c : String} {b : Bool} (h : ED te σ H d) (hb : kitB (tyD d) c = some b) : Ev (tCB (rIsiA K) (tCons te (tCons (tC (.ty c)) tNil))) σ H (.bl b) := fun H1 e1 Q q =>
  h H1 e1 _ fun v H2 e2 hd => .inl ⟨v, .ty c, _, .type c, b, rfl, .ty c, dt_ty hd, kit_ty hb, q H2 e2⟩
theorem ev_chainLe {i j k : Int} (ha : Ev ta σ H (.int i)) (hb : Ev tb σ H (.int j)) (hc : Ev tc σ H (.int k)) (h1 : i ≤ j) (h2 : j ≤ k) : Ev (tChain rLeI rLeI ta tb tc) σ H (.bl true) := fun H1 e1 Q q =>
  ha H1 e1 _ fun H2 e2 => hb H2 (e1.trans e2) _ fun H3 e3 => ⟨i, j, rfl, rfl, true, congrArg V.bl (decide_eq_true h1), by
    rw [if_pos rfl]
    exact hc H3 ((e1.trans e2).trans e3) _ fun H4 e4 => ⟨j, k, rfl, rfl, by
      have e : decide (j ≤ k) = true := decide_eq_true h2
      show Q (.bl (decide (j ≤ k))) H4
      rw [e]
      exact q H4 ((e2.trans e3).trans e4)⟩⟩
theorem ev_all {bs : List Bool} (h : ELD te σ H (bs.map PyData.bool)) : Ev (tCB (rAll K) (tCons te tNil)) σ H (.bl (bs.all id)) := fun H1 e1 Q q =>
  h H1 e1 _ fun p vs H2 hp e2 h2 hx => ⟨p, bs, rfl, SqL.of (by rw [← dta_bools hx]; exact h2), q H2 e2⟩
theorem ev_any {bs : List Bool} (h : ELD te σ H (bs.map PyData.bool)) : Ev (tCB (rAny K) (tCons te tNil)) σ H (.bl (bs.any id)) := fun H1 e1 Q q =>
  h H1 e1 _ fun p vs H2 hp e2 h2 hx => ⟨p, bs, rfl, SqL.of (by rw [← dta_bools hx]; exact h2), q H2 e2⟩
/-- all([.. for x in xs]) -/
theorem ev_allMap {α : Type} {l : List α} {f : α → Bool} (h : ELD te σ H (l.map fun x => .bool (f x))) : Ev (tCB (rAll K) (tCons te tNil)) σ H (.bl (l.all f)) := by
  have e : (l.map f).map PyData.bool = l.map fun x => PyData.bool (f x) := by rw [List.map_map] <;> rfl
  have q := ev_all (K := K) (bs := l.map f) (by rw [e]; exact h)
  have e2 : (l.map f).all id = l.all f := by rw [List.all_map] <;> rfl
  rw [e2] at q
  exact q
theorem ev_anyMap {α : Type} {l : List α} {f : α → Bool} (h : ELD te σ H (l.map fun x => .bool (f x))) : Ev (tCB (rAny K) (tCons te tNil)) σ H (.bl (l.any f)) := by
  have e : (l.map f).map PyData.bool = l.map fun x => PyData.bool (f x) := by rw [List.map_map] <;> rfl
  have q := ev_any (K := K) (bs := l.map f) (by rw [e]; exact h)
  have e2 : (l.map f).any id = l.any f := by rw [List.any_map] <;> rfl
  rw [e2] at q
  exact q
/-- a comprehension of answers -/
theorem eld_bools {α : Type} {tl : TE} {g : TG} {tt : TT} {vs : List Nat} (l : List α) (enc : α → PyData) (f : α → Bool) (hs : ES tl σ H (l.map enc)) (hm : Mono g) (hn : l.length ≤ 50000)
    (turn : ∀ x v H', x ∈ l → Ex H H' → Dt H' (enc x) v → g v (wipe σ vs) H' fun σ2 H5 => Ex H' H5 ∧ wipe σ2 vs = wipe σ vs ∧ EvT tt σ2 H5 true ∧ Ev te σ2 H5 (.bl (f x))) :
    ELD (tLc (iSq K tl) g tt te vs) σ H (l.map fun x => .bool (f x)) :=
  eld_all l enc _ hs hm hn fun x v H' hx e hd => hm _ _ _ _ _ (fun σ2 H5 ⟨a, b, c, d⟩ => ⟨a, b, c, edB d⟩) (turn x v H' hx e hd)
end

def spIsInt : Sp := fun vs H Q _ => ∃ i : Int, vs = [.int i] ∧ ∀ H', Ex H H' → Q (.bl true) H'
def spWithin : Sp := fun vs H Q _ => ∃ i lo hi : Int, vs = [.int i, .int lo, .int hi] ∧ lo ≤ i ∧ i ≤ hi ∧ ∀ H', Ex H H' → Q (.bl true) H'
def spIsPair : Sp := fun vs H Q _ => ∃ (v : V) (d e : PyData), vs = [v] ∧ Dt H (.tuple [d, e]) v ∧ ∀ H', Ex H H' → Q (.bl true) H'
def spIsListed : Sp := fun vs H Q _ => ∃ (v : V) (ds : List PyData), vs = [v] ∧ SqD H v ds ∧ ∀ H', Ex H H' → Q (.bl true) H'
def spFrom : Sp := fun vs H Q _ => ∃ i lo : Int, vs = [.int i, .int lo] ∧ lo ≤ i ∧ ∀ H', Ex H H' → Q .non H'
def spRoads : Sp := fun vs H Q _ => ∃ (v : V) (W : Web), vs = [v, .int W.houses] ∧ Dt H (dRoads W) v ∧ WebOk W ∧ ∀ H', Ex H H' → Q (.bl true) H'
def spCounts : Sp := fun vs H Q _ => ∃ (v : V) (ns : List Int) (most : Int), vs = [v, .int (ns.length : Nat), .int most] ∧ Dt H (dInts ns) v ∧ ns.length ≤ 1000 ∧ (∀ n ∈ ns, 1 ≤ n ∧ n ≤ most) ∧ ∀ H', Ex H H' → Q (.bl true) H'
abbrev s_is_integer : Stmt := top 8
abbrev N_is_integer : List Str := ["thing"]
theorem sc_is_integer : FnScope N_is_integer ["thing"] (defScope s_is_integer) := ⟨rfl, rfl, rfl, by decide +kernel, rfl, by decide +kernel, by decide +kernel⟩
abbrev s_is_within : Stmt := top 9
abbrev N_is_within : List Str := ["thing", "least", "most"]
theorem sc_is_within : FnScope N_is_within ["thing", "least", "most"] (defScope s_is_within) := ⟨rfl, rfl, rfl, by decide +kernel, rfl, by decide +kernel, by decide +kernel⟩
abbrev s_is_pair : Stmt := top 10
abbrev N_is_pair : List Str := ["thing"]
theorem sc_is_pair : FnScope N_is_pair ["thing"] (defScope s_is_pair) := ⟨rfl, rfl, rfl, by decide +kernel, rfl, by decide +kernel, by decide +kernel⟩
abbrev s_is_listed : Stmt := top 11
abbrev N_is_listed : List Str := ["thing"]
theorem sc_is_listed : FnScope N_is_listed ["thing"] (defScope s_is_listed) := ⟨rfl, rfl, rfl, by decide +kernel, rfl, by decide +kernel, by decide +kernel⟩
abbrev s_check_from : Stmt := top 12
abbrev N_check_from : List Str := ["thing", "least"]
theorem sc_check_from : FnScope N_check_from ["thing", "least"] (defScope s_check_from) := ⟨rfl, rfl, rfl, by decide +kernel, rfl, by decide +kernel, by decide +kernel⟩
abbrev s_are_roads : Stmt := top 19
abbrev N_are_roads : List Str := ["thing", "houses", "pair", "house"]
theorem sc_are_roads : FnScope N_are_roads ["thing", "houses"] (defScope s_are_roads) := ⟨rfl, rfl, rfl, by decide +kernel, rfl, by decide +kernel, by decide +kernel⟩
abbrev s_are_counts : Stmt := top 20
abbrev N_are_counts : List Str := ["thing", "many", "most", "count"]
theorem sc_are_counts : FnScope N_are_counts ["thing", "many", "most"] (defScope s_are_counts) := ⟨rfl, rfl, rfl, by decide +kernel, rfl, by decide +kernel, by decide +kernel⟩
section
variable {σ : L2.St} {H : Hp} {ta tb tc : TE}
theorem ev_callInt {i : Int} (h : Ev ta σ H (.int i)) : Ev (tCall spIsInt [] E0 (tCons ta tNil)) σ H (.bl true) := ev_callP (eap_v h eap_nil) fun vs H1 e1 hp Q q => by
  obtain ⟨_, rfl, rfl⟩ := hp
  exact ⟨i, rfl, q⟩
theorem ev_callWithin {i lo hi : Int} (h : Ev ta σ H (.int i)) (h1 : Ev tb σ H (.int lo)) (h2 : Ev tc σ H (.int hi)) (a : lo ≤ i) (b : i ≤ hi) : Ev (tCall spWithin [] E0 (tCons ta (tCons tb (tCons tc tNil)))) σ H (.bl true) := ev_callP (eap_v h (eap_v h1 (eap_v h2 eap_nil))) fun vs H1 e1 hp Q q => by
  obtain ⟨_, rfl, _, rfl, _, rfl, rfl⟩ := hp
  exact ⟨i, lo, hi, rfl, a, b, q⟩
end
section
variable {P : Program} {w : World} {K : PySem.W.Frag} {mg : Str → Option Value} {base : Heap} {f : Addr} {fd : FuncData}
theorem ok_is_integer (F : Fun K "is_integer" "is_integer" s_is_integer f fd) (B : Bl mg) : FnOk P w K mg base CX0 1 f fd ["thing"] spIsInt := by
  refine F.ok sc_is_integer (fun vs H Q E h => ?_) (fun cdv A outer s H vs Q E hr h => ?_)
  · obtain ⟨i, rfl, _⟩ := h
    rfl
  · obtain ⟨i, rfl, k⟩ := h
    refine ⟨_, (pss_one (ps_ret (pe_and (pe_callB (kIsi (K := K)) (by rfl) B.isinstance b_isinstance (pa_cons (pv 0) (pa_cons (pe_bltn (v := .ty "int") (by rfl) B.int b_int rfl) pa_nil))) (pe_one (pe_not (pe_callB (kIsi (K := K)) (by rfl) B.isinstance b_isinstance (pa_cons (pv 0) (pa_cons (pe_bltn (v := .ty "bool") (by rfl) B.bool b_bool rfl) pa_nil)))))))), ?_⟩
    exact s_ret (ev_andV (a := true) (b := true) (ev_isi (edI (ev_var rfl)) (by show kitB "int" "int" = some true; decide +kernel)) fun _ => ev_notV (a := false) (ev_isi (edI (ev_var rfl)) (by show kitB "int" "bool" = some false; decide +kernel))) k
theorem ok_is_within (F : Fun K "is_within" "is_within" s_is_within f fd) (B : Bl mg) (c_is_integer : Cal P w K mg base "is_integer" 1 ["thing"] spIsInt) : FnOk P w K mg base CX0 2 f fd ["thing", "least", "most"] spWithin := by
  refine F.ok sc_is_within (fun vs H Q E h => ?_) (fun cdv A outer s H vs Q E hr h => ?_)
  · obtain ⟨i, lo, hi, rfl, _⟩ := h
    rfl
  · obtain ⟨i, lo, hi, rfl, h1, h2, k⟩ := h
    refine ⟨_, (pss_one (ps_ret (pe_and (pe_callC c_is_integer (hr.mono (by decide)) (by rfl) (pa_cons (pv 0) pa_nil)) (pe_one (pe_chain oLe oLe (pv 1) (pv 0) (pv 2)))))), ?_⟩
    exact s_ret (ev_andV (a := true) (b := true) (ev_callInt (ev_var rfl)) fun _ => ev_chainLe (ev_var rfl) (ev_var rfl) (ev_var rfl) h1 h2) k
theorem ok_is_pair (F : Fun K "is_pair" "is_pair" s_is_pair f fd) (B : Bl mg) : FnOk P w K mg base CX0 1 f fd ["thing"] spIsPair := by
  refine F.ok sc_is_pair (fun vs H Q E h => ?_) (fun cdv A outer s H vs Q E hr h => ?_)
  · obtain ⟨v, d, e, rfl, _⟩ := h
    rfl
  · obtain ⟨v, d, e, rfl, hv, k⟩ := h
    have hu64 := hr.units
    refine ⟨_, (pss_one (ps_ret (pe_and (pe_callB (kIsi (K := K)) (by rfl) B.isinstance b_isinstance (pa_cons (pv 0) (pa_cons (pe_bltn (v := .ty "tuple") (by rfl) B.tuple b_tuple rfl) pa_nil))) (pe_one (pe_cmpR (kEq (K := K) hu64) (pe_callB (kLen (K := K)) (by rfl) B.len b_len (pa_cons (pv 0) pa_nil)) pe_int (nomark _)))))), ?_⟩
    exact s_ret (ev_andV (a := true) (b := true) (ev_isi (ed_var rfl hv) (by show kitB "tuple" "tuple" = some true; decide +kernel)) fun _ => ev_eqI (i := 2) (ev_len (ED.es (ed_var rfl hv))) ev_c) k
theorem ok_is_listed (F : Fun K "is_listed" "is_listed" s_is_listed f fd) (B : Bl mg) : FnOk P w K mg base CX0 1 f fd ["thing"] spIsListed := by
  refine F.ok sc_is_listed (fun vs H Q E h => ?_) (fun cdv A outer s H vs Q E hr h => ?_)
  · obtain ⟨v, ds, rfl, _⟩ := h
    rfl
  · obtain ⟨v, ds, rfl, ⟨ff, a, xs, rfl, hs, hx⟩, k⟩ := h
    refine ⟨_, (pss_one (ps_ret (pe_callB (kIsi (K := K)) (by rfl) B.isinstance b_isinstance (pa_cons (pv 0) (pa_cons (pe_tup (pa_cons (pe_bltn (v := .ty "list") (by rfl) B.list b_list rfl) (pa_cons (pe_bltn (v := .ty "tuple") (by rfl) B.tuple b_tuple rfl) pa_nil))) pa_nil))))), ?_⟩
    refine ⟨.ref a, rfl, by show 2 ≤ sizeLine; decide, fun tp htp => .inr ?_⟩
    have hs' := hs.ex (Ex.new htp (o := .tup [.ty "list", .ty "tuple"]))
    cases ff with
    | true =>
      refine ⟨.ref a, tp, [.ty "list", .ty "tuple"], .type "tuple", [.type "list", .type "tuple"], true, rfl, upd_same, .cons (.ty _) (.cons (.ty _) .nil), ?_, kitAny_cons (b := false) (kit_ty (by decide +kernel)) (fun _ => kitAny_cons (b := true) (kit_ty (by decide +kernel)) (fun z => by cases z) fun _ => rfl) (fun z => by cases z), k _ (Ex.new htp)⟩
      rcases hs' with h | ⟨o, h⟩
      · exact .base (.tup h)
      · exact .fTuple h
    | false =>
      exact ⟨.ref a, tp, [.ty "list", .ty "tuple"], .type "list", [.type "list", .type "tuple"], true, rfl, upd_same, .cons (.ty _) (.cons (.ty _) .nil), .base (.lst hs'), kitAny_cons (b := true) (kit_ty (by decide +kernel)) (fun z => by cases z) fun _ => rfl, k _ (Ex.new htp)⟩
theorem ok_check_from (F : Fun K "check_from" "check_from" s_check_from f fd) (B : Bl mg) (c_is_integer : Cal P w K mg base "is_integer" 1 ["thing"] spIsInt) : FnOk P w K mg base CX0 2 f fd ["thing", "least"] spFrom := by
  refine F.ok sc_check_from (fun vs H Q E h => ?_) (fun cdv A outer s H vs Q E hr h => ?_)
  · obtain ⟨i, lo, rfl, _⟩ := h
    rfl
  · obtain ⟨i, lo, rfl, h1, k⟩ := h
    refine ⟨_, (pss_one (ps_if (PW.pt (pw_or (pt_not (pt_val (pe_callC c_is_integer (hr.mono (by decide)) (by rfl) (pa_cons (pv 0) pa_nil)))) (pw_or1 (pt_cmpR oLt (pv 0) (pv 1) (nomark _)))))
    (pss_one ps_never)
    pss_nil)), ?_⟩
    exact s_when (b := false) (et_is (et_or (a := false) (b := false) (et_not (a := true) (et_test (ev_callInt (ev_var rfl)))) fun _ => et_is (et_test (ev_lt (ev_var rfl) (ev_var rfl))) (decide_eq_false (by omega))) rfl) (fun z => by cases z) fun _ => k
theorem ok_are_roads (F : Fun K "are_roads" "are_roads" s_are_roads f fd) (B : Bl mg) (c_is_pair : Cal P w K mg base "is_pair" 1 ["thing"] spIsPair) (c_is_within : Cal P w K mg base "is_within" 2 ["thing", "least", "most"] spWithin) (N_MOST_ROADS : Num mg "MOST_ROADS" 24) : FnOk P w K mg base CX0 3 f fd ["thing", "houses"] spRoads := by
  refine F.ok sc_are_roads (fun vs H Q E h => ?_) (fun cdv A outer s H vs Q E hr h => ?_)
  · obtain ⟨v, W, rfl, _⟩ := h
    rfl
  · obtain ⟨v, W, rfl, hv, wok, k⟩ := h
    have hu64 := hr.units
    refine ⟨_, (pss_cons (ps_if (PW.pt (pw_or (pt_not (pt_val (pe_callB (kIsi (K := K)) (by rfl) B.isinstance b_isinstance (pa_cons (pv 0) (pa_cons (pe_bltn (v := .ty "tuple") (by rfl) B.tuple b_tuple rfl) pa_nil))))) (pw_or1 (pt_not (pt_chain oLe oLe pe_int (pe_callB (kLen (K := K)) (by rfl) B.len b_len (pa_cons (pv 0) pa_nil)) (pe_num N_MOST_ROADS (by rfl)))))))
    (pss_one (ps_ret pe_bl))
    pss_nil)
    (pss_cons (ps_for PassesOwn.never rfl (k_sq (K := K) (pv 0)) (pg_name (i := 2) sc_are_roads.nd rfl (.inl rfl))
    (pss_one (ps_if (PW.pt (pw_or (pt_not (pt_val (pe_callC c_is_pair (hr.mono (by decide)) (by rfl) (pa_cons (pv 2) pa_nil)))) (pw_or (pt_not (pt_val (pe_callB (kAll (K := K)) (by rfl) B.all b_all (pa_cons (pe_lc (own := [("house", 3)]) rfl sc_are_roads.nd (k_sq (K := K) (pv 2)) (blkOk_by (N := N_are_roads) (sc := defScope s_are_roads) (by decide +kernel)) (fun _ _ _ _ _ => (pg_name (i := 3) sc_are_roads.nd rfl (.inl rfl))) (fun _ _ _ _ _ => pts_nil) (fun _ _ _ _ _ => (pe_callC c_is_within (hr.mono (by decide)) (by rfl) (pa_cons (pv 3) (pa_cons pe_int (pa_cons (pe_op oSub (pv 1) pe_int) pa_nil)))))) pa_nil)))) (pw_or1 (pt_cmpR (kEq (K := K) hu64) (pe_ix (kIx (K := K)) (pv 2) pe_int (fun _ _ => rfl)) (pe_ix (kIx (K := K)) (pv 2) pe_int (fun _ _ => rfl)) (nomark _))))))
      (pss_one (ps_ret pe_bl))
      pss_nil)))
    (pss_one (ps_ret pe_bl)))), ?_⟩
    have r1 := wok.r1
    have r7 := wok.r7
    refine q_when (b := false) (et_is (et_or (a := false) (b := false) (et_not (a := true) (et_test (ev_isi (ed_var rfl hv) (by show kitB "tuple" "tuple" = some true; decide +kernel)))) fun _ => et_not (a := true) (et_test (ev_chainLe ev_c (ev_lenM (f := fun p : Int × Int => .tuple [.int p.1, .int p.2]) (ED.es (ed_var rfl hv))) ev_c (by omega) (by omega)))) rfl) (fun z => by cases z) fun _ H1 e1 => ?_
    refine q_forS (ED.es (ed_var rfl (hv.ex e1))) (fun ff a xs i σ' H' => ∃ o2, σ' = [some v, some (.int W.houses), o2, none] ∧ Ex H H' ∧ Sq0 ff H' a xs ∧ DtA H' (W.roads.map fun p => .tuple [.int p.1, .int p.2]) xs) (fun ff a xs H2 e2 hs hx => ⟨none, rfl, e1.trans e2, hs, hx⟩) (fun ff a xs i σ' H' _ ⟨o2, _, _, q1, q2⟩ => ⟨q1, q2⟩) (fun ff a xs i d x σ' H' hd hdx p => ?_) fun ff a xs σ' H' ⟨o2, e, ex, _, _⟩ => ?_
    · obtain ⟨o2, rfl, ex, hs, hx⟩ := p
      rw [List.getElem?_map] at hd
      cases hp : W.roads[i]? with
      | none => rw [hp] at hd; cases hd
      | some p =>
        rw [hp] at hd
        cases hd
        obtain ⟨p1, p2, p3, p4, p5⟩ := wok.ends p (List.mem_of_getElem? hp)
        have hE : ED (tVar 2) [some v, some (.int W.houses), some x, none] H' (.tuple [.int p.1, .int p.2]) := ed_var rfl hdx
        refine s_when (b := false) (et_is (et_or (a := false) (b := false) (et_not (a := true) (et_test (ev_callP (eap_d hE eap_nil) fun vs H1 e1 hp Q q => ?_))) fun _ => et_is (et_or (a := false) (b := false) (et_not (a := true) (et_test (ev_is (ev_allMap (l := [p.1, p.2]) (f := fun _ => true) (eld_bools [p.1, p.2] PyData.int (fun _ => true) hE.es mono_name (by show 2 ≤ 50000; decide) fun n y H3 hn e3 hd3 => ?_)) rfl))) fun _ => et_is (et_test (ev_eqI (ED.ev (ed_ixn (j := 0) hE.es ev_c rfl)) (ED.ev (ed_ixn (j := 1) hE.es ev_c rfl)))) (decide_eq_false p5)) rfl) rfl) (fun z => by cases z) fun _ H2 e2 => ⟨some x, rfl, ex.trans e2, hs.ex e2, hx.ex e2⟩
        · obtain ⟨y, _, rfl, hy, rfl⟩ := hp
          exact ⟨y, _, _, rfl, hy, q⟩
        · have hd3 : y = .int n := hd3
          subst hd3
          refine ⟨Ex.refl _, rfl, fun _ _ _ q => q _ (Ex.refl _), ev_callWithin (ev_var rfl) ev_c (ev_sub (ev_var rfl) ev_c) ?_ ?_⟩
          · simp at hn
            omega
          · simp at hn
            omega
    · subst e
      exact s_ret ev_c fun H2 e2 => k H2 (ex.trans e2)
theorem ok_are_counts (F : Fun K "are_counts" "are_counts" s_are_counts f fd) (B : Bl mg) (c_is_within : Cal P w K mg base "is_within" 2 ["thing", "least", "most"] spWithin) : FnOk P w K mg base CX0 3 f fd ["thing", "many", "most"] spCounts := by
  refine F.ok sc_are_counts (fun vs H Q E h => ?_) (fun cdv A outer s H vs Q E hr h => ?_)
  · obtain ⟨v, ns, most, rfl, _⟩ := h
    rfl
  · obtain ⟨v, ns, most, rfl, hv, hl, hn, k⟩ := h
    have hu64 := hr.units
    refine ⟨_, (pss_one (ps_ret (pe_and (pe_callB (kIsi (K := K)) (by rfl) B.isinstance b_isinstance (pa_cons (pv 0) (pa_cons (pe_bltn (v := .ty "tuple") (by rfl) B.tuple b_tuple rfl) pa_nil))) (pe_and (pe_cmpR (kEq (K := K) hu64) (pe_callB (kLen (K := K)) (by rfl) B.len b_len (pa_cons (pv 0) pa_nil)) (pv 1) (nomark _)) (pe_one (pe_callB (kAll (K := K)) (by rfl) B.all b_all (pa_cons (pe_lc (own := [("count", 3)]) rfl sc_are_counts.nd (k_sq (K := K) (pv 0)) (blkOk_by (N := N_are_counts) (sc := defScope s_are_counts) (by decide +kernel)) (fun _ _ _ _ _ => (pg_name (i := 3) sc_are_counts.nd rfl (.inl rfl))) (fun _ _ _ _ _ => pts_nil) (fun _ _ _ _ _ => (pe_callC c_is_within (hr.mono (by decide)) (by rfl) (pa_cons (pv 3) (pa_cons pe_int (pa_cons (pv 2) pa_nil)))))) pa_nil))))))), ?_⟩
    refine s_ret (ev_andV (a := true) (b := true) (ev_isi (ed_var rfl hv) (by show kitB "tuple" "tuple" = some true; decide +kernel)) fun _ => ev_andV (a := true) (b := true) (ev_is (ev_eqI (ev_lenM (f := PyData.int) (ED.es (ed_var rfl hv))) (ev_var rfl)) (by rw [decide_eq_true rfl])) fun _ => ev_is (ev_allMap (l := ns) (f := fun _ => true) (eld_bools ns PyData.int (fun _ => true) (ED.es (ed_var rfl hv)) mono_name (by omega) fun n y H3 hm e3 hd3 => ?_)) (by simp)) k
    have hd3 : y = .int n := hd3
    subst hd3
    exact ⟨Ex.refl _, rfl, fun _ _ _ q => q _ (Ex.refl _), ev_callWithin (ev_var rfl) ev_c (ev_var rfl) (hn n hm).1 (hn n hm).2⟩
end
end Z
/-! Pb: Web.keep, Web.__init__, _law_web_of. -/
namespace Z
open PySem PySem.Spec PyProof.Rows L2 Evl

def dNext (W : Web) : PyData := .tuple ((List.range W.roads.length).map fun r => dWay (nexts W r))
def fsWeb (W : Web) (vr vm vt vn vl : V) : List (Str × V) := [("houses", .int W.houses), ("roads", vr), ("rooms", vm), ("times", vt), ("kept_next", vn), ("kept_leads", vl)]
def MadeAt (H : Hp) (C m : Addr) (W : Web) : Prop := ∃ dx vr vm vt vn vl, H m = some (.ins C dx (fsWeb W vr vm vt vn vl)) ∧ Dt H (dRoads W) vr ∧ Dt H (dInts W.rooms) vm ∧ Dt H (dInts W.times) vt ∧ Dt H (dNext W) vn
theorem MadeAt.ex {H H' : Hp} {C m : Addr} {W : Web} (h : MadeAt H C m W) (e : Ex H H') : MadeAt H' C m W := by
  obtain ⟨dx, vr, vm, vt, vn, vl, h1, h2, h3, h4, h5⟩ := h
  exact ⟨dx, vr, vm, vt, vn, vl, e _ _ h1, h2.ex e, h3.ex e, h4.ex e, h5.ex e⟩
theorem MadeAt.fk {S : Addr → Prop} {H H' : Hp} {C m : Addr} {W : Web} (h : MadeAt H C m W) (f : Fk S H H') (s : So S H) (n : ¬ S m) : MadeAt H' C m W := by
  obtain ⟨dx, vr, vm, vt, vn, vl, h1, h2, h3, h4, h5⟩ := h
  have tk := f.tk s
  exact ⟨dx, vr, vm, vt, vn, vl, f _ _ n h1, h2.tk tk, h3.tk tk, h4.tk tk, h5.tk tk⟩
/-- the class Web as it stands -/
structure WebC (K : PySem.W.Frag) (C : Addr) : Prop where
  cls : Cls K C
  na : ∀ f ∈ (["houses", "roads", "rooms", "times", "kept_next", "kept_leads"] : List Str), NoAttr K C f
section
variable {K : PySem.W.Frag} {σ : L2.St} {H : Hp} {ta tb tv te : TE} {D : Ends} {tz : TS} {d : PyData} {a C dx : Addr} {fs : List (Str × V)} {f : Str} {v : V} {W : Web} {m : Addr}
theorem s_fld (hv : Ev tv σ H v) (ha : Ev ta σ H (.ref a)) (ho : H a = some (.ins C dx fs)) (hc : Cls K C) (hn : NoAttr K C f) (hl : fs.length < 1000) (k : ∀ H1, Ex H H1 → D.nx σ (upd H1 a (.ins C dx (putF f v fs)))) : sFld K ta tv f D σ H :=
  hv H (Ex.refl H) _ fun H1 e1 => ha H1 e1 _ fun H2 e2 => ⟨a, C, dx, fs, rfl, (e1.trans e2) _ _ ho, hc, hn, hl, k H2 (e1.trans e2)⟩
theorem s_fldD (hv : ED tv σ H d) (ha : Ev ta σ H (.ref a)) (ho : H a = some (.ins C dx fs)) (hc : Cls K C) (hn : NoAttr K C f) (hl : fs.length < 1000) (k : ∀ y H1, Ex H H1 → Dt H1 d y → D.nx σ (upd H1 a (.ins C dx (putF f y fs)))) : sFld K ta tv f D σ H :=
  hv H (Ex.refl H) _ fun y H1 e1 hy => ha H1 e1 _ fun H2 e2 => ⟨a, C, dx, fs, rfl, (e1.trans e2) _ _ ho, hc, hn, hl, k y H2 (e1.trans e2) (hy.ex e2)⟩
theorem q_fld (hv : Ev tv σ H v) (ha : Ev ta σ H (.ref a)) (ho : H a = some (.ins C dx fs)) (hc : Cls K C) (hn : NoAttr K C f) (hl : fs.length < 1000) (k : ∀ H1, Ex H H1 → tz D σ (upd H1 a (.ins C dx (putF f v fs)))) : tSeq (sFld K ta tv f) tz D σ H := s_fld (D := { D with nx := tz D }) hv ha ho hc hn hl k
theorem q_fldD (hv : ED tv σ H d) (ha : Ev ta σ H (.ref a)) (ho : H a = some (.ins C dx fs)) (hc : Cls K C) (hn : NoAttr K C f) (hl : fs.length < 1000) (k : ∀ y H1, Ex H H1 → Dt H1 d y → tz D σ (upd H1 a (.ins C dx (putF f y fs)))) : tSeq (sFld K ta tv f) tz D σ H := s_fldD (D := { D with nx := tz D }) hv ha ho hc hn hl k
theorem ev_fld (ha : Ev ta σ H (.ref a)) (ho : H a = some (.ins C dx fs)) (hc : Cls K C) (hn : NoAttr K C f) (hl : fs.lookup f = some v) : Ev (tFld K ta f) σ H v := fun H1 e1 Q q =>
  ha H1 e1 _ fun H2 e2 => ⟨a, C, dx, fs, v, rfl, (e1.trans e2) _ _ ho, hc, hn, hl, q H2 e2⟩
theorem ed_of (h : Ev te σ H v) (hd : Dt H d v) : ED te σ H d := fun H1 e1 Q q => h H1 e1 _ fun H2 e2 => q v H2 e2 (hd.ex (e1.trans e2))
/-- web.roads, .. -/
theorem MadeAt.roads (c : WebC K C) (h : MadeAt H C m W) (ha : Ev ta σ H (.ref m)) : ED (tFld K ta "roads") σ H (dRoads W) := by
  obtain ⟨dx, vr, vm, vt, vn, vl, h1, h2, h3, h4, h5⟩ := h
  exact ed_of (ev_fld ha h1 c.cls (c.na _ (by decide)) rfl) h2
theorem MadeAt.rooms (c : WebC K C) (h : MadeAt H C m W) (ha : Ev ta σ H (.ref m)) : ED (tFld K ta "rooms") σ H (dInts W.rooms) := by
  obtain ⟨dx, vr, vm, vt, vn, vl, h1, h2, h3, h4, h5⟩ := h
  exact ed_of (ev_fld ha h1 c.cls (c.na _ (by decide)) rfl) h3
theorem MadeAt.times (c : WebC K C) (h : MadeAt H C m W) (ha : Ev ta σ H (.ref m)) : ED (tFld K ta "times") σ H (dInts W.times) := by
  obtain ⟨dx, vr, vm, vt, vn, vl, h1, h2, h3, h4, h5⟩ := h
  exact ed_of (ev_fld ha h1 c.cls (c.na _ (by decide)) rfl) h4
theorem MadeAt.next (c : WebC K C) (h : MadeAt H C m W) (ha : Ev ta σ H (.ref m)) : ED (tFld K ta "kept_next") σ H (dNext W) := by
  obtain ⟨dx, vr, vm, vt, vn, vl, h1, h2, h3, h4, h5⟩ := h
  exact ed_of (ev_fld ha h1 c.cls (c.na _ (by decide)) rfl) h5
/-- for i, a in enumerate(t), t a value that stands -/
theorem s_forEnV {ds : List PyData} {i j : Nat} {tu : TS} (hv : Ev te σ H v) (hs : Dt H (.tuple ds) v) (Pv : Nat → L2.St → Hp → Prop) (hk : ∀ n σ' H', Pv n σ' H' → Tk H H') (h0 : ∀ H1, Ex H H1 → Pv 0 σ H1)
    (turn : ∀ n d v σ' H' H2, ds[n]? = some d → Dt H2 d v → Pv n σ' H' → Ex H' H2 → tu { D with nx := Pv (n + 1), ct := Pv (n + 1), bk := D.nx } ((σ'.set i (some (.int (n : Int)))).set j (some v)) H2)
    (hd : ∀ σ' H', Pv ds.length σ' H' → D.nx σ' H') : tFor (iEf true K (tCons te tNil)) (gTup K 2 (gCons (gName i) (gCons (gName j) gNil))) tu D σ H :=
  hv H (Ex.refl H) _ fun H1 e1 => by
    obtain ⟨a, xs, rfl, ha, hx⟩ := hs
    have hlen := hx.len
    refine ⟨a, xs, rfl, .inl (ex_rd e1 ha), for_it (walk_ef (f := true) (xs := xs)) Pv (h0 H1 e1) (fun n σ' H' hi p => .inl (hk n σ' H' p a xs ha)) (fun n x σ' H2 H3 hi p hy => ?_) fun σ' H' p => hd σ' H' (by rw [← hlen]; exact p)⟩
    obtain ⟨T, x1, x2, rfl, hT, rfl, q1, q2⟩ := hy
    cases q1
    refine ⟨T, [.int (n : Int), x2], rfl, SqT.of upd_same, rfl, _, _, rfl, _, _, rfl, rfl, ?_⟩
    obtain ⟨d, h1, h2⟩ := hx.get' q2
    exact turn n d x2 σ' H2 _ h1 ((h2.tk (hk n σ' H2 p)).ex (Ex.new hT)) p (Ex.new hT)
theorem q_forEnV {ds : List PyData} {i j : Nat} {tu : TS} (hv : Ev te σ H v) (hs : Dt H (.tuple ds) v) (Pv : Nat → L2.St → Hp → Prop) (hk : ∀ n σ' H', Pv n σ' H' → Tk H H') (h0 : ∀ H1, Ex H H1 → Pv 0 σ H1)
    (turn : ∀ n d v σ' H' H2, ds[n]? = some d → Dt H2 d v → Pv n σ' H' → Ex H' H2 → tu { D with nx := Pv (n + 1), ct := Pv (n + 1), bk := tz D } ((σ'.set i (some (.int (n : Int)))).set j (some v)) H2)
    (hd : ∀ σ' H', Pv ds.length σ' H' → tz D σ' H') : tSeq (tFor (iEf true K (tCons te tNil)) (gTup K 2 (gCons (gName i) (gCons (gName j) gNil))) tu) tz D σ H := s_forEnV (D := { D with nx := tz D }) hv hs Pv hk h0 turn hd
/-- for a, b in zip(t, u), two tuples of one length that stand -/
theorem s_forZtV {ds ds' : List PyData} {i j : Nat} {tu : TS} {v' : V} (hv : Ev ta σ H v) (hs : Dt H (.tuple ds) v) (hv2 : Ev tb σ H v') (hs2 : Dt H (.tuple ds') v') (hl : ds.length = ds'.length) (Pv : Nat → L2.St → Hp → Prop) (hk : ∀ n σ' H', Pv n σ' H' → Tk H H') (h0 : ∀ H1, Ex H H1 → Pv 0 σ H1)
    (turn : ∀ n d d2 x x2 σ' H' H2, ds[n]? = some d → ds'[n]? = some d2 → Dt H2 d x → Dt H2 d2 x2 → Pv n σ' H' → Ex H' H2 → tu { D with nx := Pv (n + 1), ct := Pv (n + 1), bk := D.nx } ((σ'.set i (some x)).set j (some x2)) H2)
    (hd : ∀ σ' H', Pv ds.length σ' H' → D.nx σ' H') : tFor (iZf true true K (tCons ta (tCons tb tNil))) (gTup K 2 (gCons (gName i) (gCons (gName j) gNil))) tu D σ H :=
  hv H (Ex.refl H) _ fun H1 e1 => hv2 H1 e1 _ fun H2 e2 => by
    obtain ⟨a, xs, rfl, ha, hx⟩ := hs
    obtain ⟨b, ys, rfl, hb, hy⟩ := hs2
    have l1 := hx.len
    have l2 := hy.len
    refine ⟨a, b, xs, ys, rfl, .inl (ex_rd (e1.trans e2) ha), .inl (ex_rd (e1.trans e2) hb), for_it (walk_zf (f := true) (g := true) (xs := xs) (ys := ys)) Pv (h0 H2 (e1.trans e2)) (fun n σ' H' hi p => ?_) (fun n x σ' H3 H4 hi p hyy => ?_) fun σ' H' p => hd σ' H' (by rw [show ds.length = min xs.length ys.length by omega]; exact p)⟩
    · have tk := hk n σ' H' p
      exact ⟨.inl (tk a xs ha), .inl (tk b ys hb)⟩
    · obtain ⟨T, x1, x2, rfl, hT, rfl, q1, q2⟩ := hyy
      have tk := hk n σ' H3 p
      refine ⟨T, [x1, x2], rfl, SqT.of upd_same, rfl, _, _, rfl, _, _, rfl, rfl, ?_⟩
      obtain ⟨d, h1, h2⟩ := hx.get' q1
      obtain ⟨d2, h3, h4⟩ := hy.get' q2
      exact turn n d d2 x1 x2 σ' H3 _ h1 h3 ((h2.tk tk).ex (Ex.new hT)) ((h4.tk tk).ex (Ex.new hT)) p (Ex.new hT)
/-- d.get(r, []) -/
theorem es_get2 {d : Addr} {es : List (Int × Addr)} {nums : Int → List Nat} {r : Int} (h : DR H d es nums) (hv : Ev ta σ H (.ref d)) (hr : Ev tb σ H (.int r)) : ES (tDGet2 ta tb (tLst tNil)) σ H ((nums r).map iN) := fun H1 e1 Q q =>
  hv H1 e1 _ fun H2 e2 => ⟨d, rfl, .inl ⟨_, .inl (e2 _ _ (e1 _ _ h.at_))⟩, hr H2 (e1.trans e2) _ fun H3 e3 => ⟨by decide, fun p hp => by
    have e03 := ((e1.trans e2).trans e3).trans (Ex.new hp (o := .lst []))
    have h' := h.ex e03
    refine ⟨valV (es.map encE) (.inl r), .inl ⟨_, .inl r, .inl h'.at_, rfl, rfl⟩, ?_⟩
    by_cases hn : nums r = []
    · have hno : valV (es.map encE) (.inl r) = none := by
        cases e : valV (es.map encE) (.inl r) with
        | none => rfl
        | some v =>
          obtain ⟨l, rfl, hm⟩ := val_some e
          exact absurd hn (h.all _ hm).2
      rw [hno]
      exact q false p [] _ ((e2.trans e3).trans (Ex.new hp)) upd_same (by rw [hn] <;> rfl)
    · obtain ⟨e, he, rfl⟩ := List.mem_map.mp (h.has r hn)
      rw [val_of h.nk (show (e.1, e.2) ∈ es from he)]
      exact q false e.2 _ _ ((e2.trans e3).trans (Ex.new hp)) (h'.all e he).1 (dt_map (f := iN) (g := vNat) fun _ _ => rfl)⟩⟩
end
theorem s_retMake {P : List V → Hp → Prop} {t : TA} {sp : Sp} {σ : L2.St} {H : Hp} {D : Ends} {C : Addr} (h : EAP t σ H P) (k : ∀ ws H1, Ex H H1 → P ws H1 → ∀ x dx, H1 x = none → H1 dx = none → dx ≠ x → sp (.ref x :: ws) (upd (upd H1 dx (.own x)) x (.ins C dx [])) (fun v H2 => v = .non ∧ D.rt (.ref x) H2) E0) :
    tRet (tMake C sp [] E0 t) D σ H := h H (Ex.refl H) _ fun ws H1 e1 p x dx a b c => by
  show sp (.ref x :: (ws ++ [])) _ _ E0
  rw [List.append_nil]
  exact k ws H1 e1 p x dx a b c
theorem q_asgMake {P : List V → Hp → Prop} {t : TA} {sp : Sp} {σ : L2.St} {H : Hp} {D : Ends} {tz : TS} {C : Addr} {i : Nat} (h : EAP t σ H P) (k : ∀ ws H1, Ex H H1 → P ws H1 → ∀ x dx, H1 x = none → H1 dx = none → dx ≠ x → sp (.ref x :: ws) (upd (upd H1 dx (.own x)) x (.ins C dx [])) (fun v H2 => v = .non ∧ tz D (σ.set i (some (.ref x))) H2) E0) :
    tSeq (tAsg (tMake C sp [] E0 t) (gName i)) tz D σ H := h H (Ex.refl H) _ fun ws H1 e1 p x dx a b c => by
  show sp (.ref x :: (ws ++ [])) _ _ E0
  rw [List.append_nil]
  exact k ws H1 e1 p x dx a b c
/-- the roads among the first i that begin at a house -/
def begs (W : Web) (i : Nat) : Int → List Nat := fun q => (List.range i).filter fun o => decide ((W.roads.getD o (0, 0)).1 = q)
theorem begs_succ (W : Web) (i : Nat) : begs W (i + 1) = bump (begs W i) (W.roads.getD i (0, 0)).1 i := by
  funext q
  unfold begs bump
  rw [List.range_succ, List.filter_append]
  by_cases e : q = (W.roads.getD i (0, 0)).1
  · rw [if_pos e, e]
    simp
  · have e2 : ¬ (W.roads.getD i (0, 0)).1 = q := fun z => e z.symm
    rw [if_neg e, List.filter_cons_of_neg (by rw [decide_eq_false e2]; decide), List.filter_nil, List.append_nil]
theorem begs_len (W : Web) (i : Nat) (q : Int) : (begs W i q).length ≤ i := by
  have h := List.length_filter_le (fun o => decide ((W.roads.getD o (0, 0)).1 = q)) (List.range i)
  rw [List.length_range] at h
  exact h
def spKeep (C : Addr) : Sp := fun vs H Q _ => ∃ (m dx : Addr) (W : Web) (vr vm vt : V), vs = [.ref m, .int W.houses, vr, vm, vt] ∧ H m = some (.ins C dx []) ∧ Dt H (dRoads W) vr ∧ Dt H (dInts W.rooms) vm ∧ Dt H (dInts W.times) vt ∧ WebOk W ∧
  ∀ H', Fk (fun b => b = m) H H' → MadeAt H' C m W → Q .non H'
abbrev s_Web_keep : Stmt := inClass (top 21) 1
abbrev N_Web_keep : List Str := ["self", "houses", "roads", "rooms", "times", "begun", "road", "pair", "row"]
theorem sc_Web_keep : FnScope N_Web_keep ["self", "houses", "roads", "rooms", "times"] (defScope s_Web_keep) := ⟨rfl, rfl, rfl, by decide +kernel, rfl, by decide +kernel, by decide +kernel⟩
abbrev s_Web_init : Stmt := inClass (top 21) 0
abbrev N_Web_init : List Str := ["self", "houses", "roads", "rooms", "times"]
theorem sc_Web_init : FnScope N_Web_init ["self", "houses", "roads", "rooms", "times"] (defScope s_Web_init) := ⟨rfl, rfl, rfl, by decide +kernel, rfl, by decide +kernel, by decide +kernel⟩
abbrev s_l_web_of : Stmt := top 50
abbrev N_l_web_of : List Str := ["_law_web_here"]
theorem sc_l_web_of : FnScope N_l_web_of ["_law_web_here"] (defScope s_l_web_of) := ⟨rfl, rfl, rfl, by decide +kernel, rfl, by decide +kernel, by decide +kernel⟩
def spWebOf (C : Addr) : Sp := fun vs H Q _ => ∃ (a : Addr) (W : Web), vs = [.ref a] ∧ WebAt H a W ∧ WebOk W ∧ ∀ m H', H m = none → Ex H H' → MadeAt H' C m W → Q (.ref m) H'
section
variable {P : Program} {w : World} {K : PySem.W.Frag} {mg : Str → Option Value} {base : Heap} {f : Addr} {fd : FuncData} {C : Addr}
theorem ok_keep (F : Fun K "keep" "Web.keep" s_Web_keep f fd) (B : Bl mg) (wc : WebC K C) : FnOk P w K mg base CX0 1 f fd ["self", "houses", "roads", "rooms", "times"] (spKeep C) := by
  refine F.ok sc_Web_keep (fun vs H Q E h => ?_) (fun cdv A outer s H vs Q E hr h => ?_)
  · obtain ⟨m, dx, W, vr, vm, vt, rfl, _⟩ := h
    rfl
  · obtain ⟨m, dx, W, vr, vm, vt, rfl, hm, h1, h2, h3, wok, k⟩ := h
    have hu64 := hr.units
    have hu := hu_of hr
    refine ⟨_, (pss_cons (ps_fld (pv 0) (pv 1) rfl)
    (pss_cons (ps_fld (pv 0) (pv 2) rfl)
    (pss_cons (ps_fld (pv 0) (pv 3) rfl)
    (pss_cons (ps_fld (pv 0) (pv 4) rfl)
    (pss_cons (ps_set (i := 5) sc_Web_keep.nd rfl (.inr rfl) pe_dnewK)
    (pss_cons (ps_for PassesOwn.never rfl (k_ef (K := K) true (by rfl) B.enumerate (pa_cons (pv 2) pa_nil)) (k_tup (K := K) (n := 2) (by rfl) (pgs_cons (pg_name (i := 6) sc_Web_keep.nd rfl (.inl rfl)) (pgs_cons (pg_name (i := 7) sc_Web_keep.nd rfl (.inl rfl)) pgs_nil)))
    (pss_one (ps_expr (pe_bm PySem.F.plainAttrs_list PySem.F.slot_list_append PySem.F.type_list_append mt_append (pe_dsetd (pv 5) (pe_ix (kIx (K := K)) (pv 7) pe_int (fun _ _ => rfl)) (pe_lst pa_nil) ⟨rfl, rfl, rfl, rfl⟩) (pa_cons (pv 6) pa_nil)))))
    (pss_cons (ps_fld (pv 0) (pe_callTy (kTup (K := K)) (by rfl) B.tuple b_tuple (pa_cons (pe_lc (own := [("pair", 7)]) rfl sc_Web_keep.nd (k_sq (K := K) (pv 2)) (blkOk_by (N := N_Web_keep) (sc := defScope s_Web_keep) (by decide +kernel)) (fun _ _ _ _ _ => (pg_name (i := 7) sc_Web_keep.nd rfl (.inl rfl))) (fun _ _ _ _ _ => pts_nil) (fun _ _ _ _ _ => (pe_callTy (kTup (K := K)) (by rfl) B.tuple b_tuple (pa_cons (pe_dget2 hu (pv 5) (pe_ix (kIx (K := K)) (pv 7) pe_int (fun _ _ => rfl)) (pe_lst pa_nil) ⟨rfl, rfl, rfl, rfl⟩) pa_nil)))) pa_nil)) rfl)
    (pss_one (ps_fld (pv 0) (pe_callTy (kTup (K := K)) (by rfl) B.tuple b_tuple (pa_cons (pe_lc (own := [("row", 8)]) rfl sc_Web_keep.nd (k_sq (K := K) (k_fld (K := K) (pv 0))) (blkOk_by (N := N_Web_keep) (sc := defScope s_Web_keep) (by decide +kernel)) (fun _ _ _ _ _ => (pg_name (i := 8) sc_Web_keep.nd rfl (.inl rfl))) (fun _ _ _ _ _ => pts_nil) (fun _ _ _ _ _ => (pe_cmpR oGt (pe_callB (kLen (K := K)) (by rfl) B.len b_len (pa_cons (pv 8) pa_nil)) pe_int (nomark _)))) pa_nil)) rfl))))))))), ?_⟩
    have r7 := wok.r7
    have soft : ∀ {H' : Hp} {dx fs}, H' m = some (.ins C dx fs) → So (fun b => b = m) H' := fun {H' dx fs} z b u q p => by
      subst q
      rw [z] at p
      cases p
      exact .inr ⟨_, _, _, rfl⟩
    refine q_fld (ev_var rfl) (ev_var rfl) hm wc.cls (wc.na _ (by decide)) (by decide) fun H1 e1 => ?_
    have F1 : Fk (fun b => b = m) H (upd H1 m (.ins C dx (putF "houses" (.int W.houses) []))) := (Fk.of e1).trans (Fk.at rfl)
    have hm1 : upd H1 m (.ins C dx (putF "houses" (.int W.houses) [])) m = some (.ins C dx (putF "houses" (.int W.houses) [])) := upd_same
    generalize upd H1 m (.ins C dx (putF "houses" (.int W.houses) [])) = G1 at *
    refine q_fld (ev_var rfl) (ev_var rfl) hm1 wc.cls (wc.na _ (by decide)) (by show 1 < 1000; decide) fun H2 e2 => ?_
    have F2 := (F1.trans (Fk.of e2)).trans (Fk.at (H := H2) (o := .ins C dx (putF "roads" vr (putF "houses" (.int W.houses) []))) (S := fun b => b = m) rfl)
    have hm2 : upd H2 m (.ins C dx (putF "roads" vr (putF "houses" (.int W.houses) []))) m = _ := upd_same
    generalize upd H2 m (.ins C dx (putF "roads" vr (putF "houses" (.int W.houses) []))) = G2 at *
    refine q_fld (ev_var rfl) (ev_var rfl) hm2 wc.cls (wc.na _ (by decide)) (by show 2 < 1000; decide) fun H3 e3 => ?_
    have F3 := (F2.trans (Fk.of e3)).trans (Fk.at (H := H3) (o := .ins C dx (putF "rooms" vm (putF "roads" vr (putF "houses" (.int W.houses) [])))) (S := fun b => b = m) rfl)
    have hm3 : upd H3 m (.ins C dx (putF "rooms" vm (putF "roads" vr (putF "houses" (.int W.houses) [])))) m = _ := upd_same
    generalize upd H3 m (.ins C dx (putF "rooms" vm (putF "roads" vr (putF "houses" (.int W.houses) [])))) = G3 at *
    refine q_fld (ev_var rfl) (ev_var rfl) hm3 wc.cls (wc.na _ (by decide)) (by show 3 < 1000; decide) fun H4 e4 => ?_
    have F4 := (F3.trans (Fk.of e4)).trans (Fk.at (H := H4) (o := .ins C dx (putF "times" vt (putF "rooms" vm (putF "roads" vr (putF "houses" (.int W.houses) []))))) (S := fun b => b = m) rfl)
    have hm4 : upd H4 m (.ins C dx (putF "times" vt (putF "rooms" vm (putF "roads" vr (putF "houses" (.int W.houses) []))))) m = _ := upd_same
    generalize upd H4 m (.ins C dx (putF "times" vt (putF "rooms" vm (putF "roads" vr (putF "houses" (.int W.houses) []))))) = G4 at *
    have tk4 := F4.tk (soft hm)
    have h1 := h1.tk tk4
    have h2 := h2.tk tk4
    have h3 := h3.tk tk4
    clear F1 F2 F3 hm1 hm2 hm3 e1 e2 e3 e4 tk4
    -- begun
    intro d hd
    have dw0 : DW G4 (upd G4 d (.dK [])) d [] (begs W 0) := ⟨hd, Ex.new hd, upd_same, List.nodup_nil, List.nodup_nil, fun e he => by simp at he, fun r h => absurd rfl h⟩
    show tSeq _ _ _ [some (V.ref m), some (V.int W.houses), some vr, some vm, some vt, some (V.ref d), none, none, none] _
    refine q_forEnV (ds := W.roads.map fun p => .tuple [.int p.1, .int p.2]) (ev_var rfl) (h1.ex (Ex.new hd)) (fun i σ' H' => ∃ es o6 o7, σ' = [some (V.ref m), some (V.int W.houses), some vr, some vm, some vt, some (V.ref d), o6, o7, none] ∧ DW G4 H' d es (begs W i) ∧ es.length ≤ i) (fun i σ' H' p => ?_) (fun H5 e5 => ?_) (fun i dd v σ' H5 H6 hdd hv p e6 => ?_) fun σ' H5 p => ?_
    · obtain ⟨es, o6, o7, _, dw, _⟩ := p
      intro a xs q
      have hne : a ≠ d := rd_ne q upd_same (fun z => by cases z) (fun _ z => by cases z)
      refine (Ex.tk dw.ex) a xs ?_
      rcases q with q | ⟨o, q⟩
      · rw [upd_ne hne] at q
        exact .inl q
      · rw [upd_ne hne] at q
        exact .inr ⟨o, q⟩
    · exact ⟨[], none, none, rfl, dw0.mono e5, Nat.le_refl _⟩
    · obtain ⟨es, o6, o7, rfl, dw, hl⟩ := p
      rw [List.getElem?_map] at hdd
      cases hp : W.roads[i]? with
      | none => rw [hp] at hdd; cases hdd
      | some p =>
        rw [hp] at hdd
        cases hdd
        have hi := (List.getElem?_eq_some_iff.mp hp).1
        have hpe : W.roads.getD i (0, 0) = p := by rw [List.getD_eq_getElem?_getD, hp] <;> rfl
        refine s_setdefApp (r := p.1) (n := i) (ev_var rfl) (ED.ev (ed_ixn (j := 0) (ED.es (ed_var rfl hv)) ev_c rfl)) (fun H4 Q q => ⟨_, rfl, q⟩) (dw.mono e6) (by omega) (Nat.le_trans (begs_len _ _ _) (by omega)) fun H7 es' dw' hl' => ⟨es', _, _, rfl, ?_, by omega⟩
        rw [begs_succ, hpe]
        exact dw'
    · obtain ⟨es, o6, o7, rfl, dw, hl⟩ := p
      rw [List.length_map] at dw
      have e5 := dw.ex
      have dr := dw.dr
      have hm5 := e5 _ _ hm4
      have F5 : Fk (fun b => b = m) H H5 := F4.trans (Fk.of e5)
      have hmd : m ≠ d := fun z => by rw [z, hd] at hm4; cases hm4
      -- kept_next
      refine q_fldD (d := dNext W) (ed_tupleOf (ELD.es (ELD.is (eld_all W.roads (fun p => .tuple [.int p.1, .int p.2]) (fun p => dWay (begs W W.roads.length p.2)) (ED.es (ed_var rfl (h1.ex e5))) mono_name (by omega) fun p v H6 hp e6 hv => ⟨Ex.refl _, rfl, fun _ _ _ q => q _ (Ex.refl _), ed_tupleOf (es_get2 (dr.ex e6) (ev_var rfl) (ED.ev (ed_ixn (j := 1) (ED.es (ed_var rfl hv)) ev_c rfl)))⟩) ?_))) (ev_var rfl) hm5 wc.cls (wc.na _ (by decide)) (by show 4 < 1000; decide) fun vn H6 e6 hvn => ?_
      · apply List.ext_getElem
        · rw [List.length_map, List.length_map, List.length_range]
        · intro i h1 h2
          rw [List.length_map] at h1
          rw [List.getElem_map, List.getElem_map, List.getElem_range]
          unfold nexts begs
          rw [show W.roads.getD i (0, 0) = W.roads[i] by rw [List.getD_eq_getElem?_getD, List.getElem?_eq_getElem h1] <;> rfl]
      have F6 := (F5.trans (Fk.of e6)).trans (Fk.at (H := H6) (o := .ins C dx (putF "kept_next" vn (putF "times" vt (putF "rooms" vm (putF "roads" vr (putF "houses" (.int W.houses) [])))))) (S := fun b => b = m) rfl)
      have hm6 : upd H6 m (.ins C dx (putF "kept_next" vn (putF "times" vt (putF "rooms" vm (putF "roads" vr (putF "houses" (.int W.houses) [])))))) m = _ := upd_same
      have hvn := hvn.tk ((Fk.at (H := H6) (o := .ins C dx (putF "kept_next" vn (putF "times" vt (putF "rooms" vm (putF "roads" vr (putF "houses" (.int W.houses) [])))))) (S := fun b => b = m) rfl).tk (soft (e6 _ _ hm5)))
      have tk6 : Tk G4 (upd H6 m (.ins C dx (putF "kept_next" vn (putF "times" vt (putF "rooms" vm (putF "roads" vr (putF "houses" (.int W.houses) []))))))) := ((Ex.tk e5).trans (Ex.tk e6)).trans ((Fk.at (H := H6) (o := .ins C dx (putF "kept_next" vn (putF "times" vt (putF "rooms" vm (putF "roads" vr (putF "houses" (.int W.houses) [])))))) (S := fun b => b = m) rfl).tk (soft (e6 _ _ hm5)))
      generalize upd H6 m (.ins C dx (putF "kept_next" vn (putF "times" vt (putF "rooms" vm (putF "roads" vr (putF "houses" (.int W.houses) [])))))) = G6 at *
      -- kept_leads
      refine s_fldD (d := .tuple ((List.range W.roads.length).map fun r => .bool (decide (0 < (nexts W r).length)))) (ed_tupleOf (ELD.es (eld_all (List.range W.roads.length) (fun r => dWay (nexts W r)) (fun r => .bool (decide (0 < (nexts W r).length))) (ED.es (ed_of (ev_fld (ev_var rfl) hm6 wc.cls (wc.na _ (by decide)) rfl) hvn)) mono_name (by rw [List.length_range]; omega) fun r v H7 hp e7 hv => ⟨Ex.refl _, rfl, fun _ _ _ q => q _ (Ex.refl _), edB ?_⟩))) (ev_var rfl) hm6 wc.cls (wc.na _ (by decide)) (by show 5 < 1000; decide) fun vl H7 e7 hvl => ?_
      · have q := ev_gt (ev_lenM (K := K) (f := iN) (l := nexts W r) (ED.es (ed_var (i := 8) (v := v) (σ := [some (V.ref m), some (V.int W.houses), some vr, some vm, some vt, some (V.ref d), o6, o7, some v]) rfl hv))) (ev_c (v := .int 0))
        have e : decide ((0 : Int) < (((nexts W r).length : Nat) : Int)) = decide (0 < (nexts W r).length) := by
          by_cases h : 0 < (nexts W r).length
          · rw [decide_eq_true h, decide_eq_true (by omega)]
          · rw [decide_eq_false h, decide_eq_false (by omega)]
        rw [e] at q
        exact q
      · have tk7 : Tk H7 (upd H7 m (.ins C dx (putF "kept_leads" vl (putF "kept_next" vn (putF "times" vt (putF "rooms" vm (putF "roads" vr (putF "houses" (.int W.houses) [])))))))) := (Fk.at (H := H7) (S := fun b => b = m) rfl).tk (soft (e7 _ _ hm6))
        have tk := (tk6.trans (Ex.tk e7)).trans tk7
        exact k _ ((F6.trans (Fk.of e7)).trans (Fk.at rfl)) ⟨dx, vr, vm, vt, vn, vl, upd_same, h1.tk tk, h2.tk tk, h3.tk tk, (hvn.ex e7).tk tk7⟩
theorem ok_web_init (F : Fun K "__init__" "Web.__init__" s_Web_init f fd) (B : Bl mg) (c_is_within : Cal P w K mg base "is_within" 2 ["thing", "least", "most"] spWithin) (c_are_roads : Cal P w K mg base "are_roads" 3 ["thing", "houses"] spRoads)
    (c_are_counts : Cal P w K mg base "are_counts" 3 ["thing", "many", "most"] spCounts) (c_keep : CalM P w K mg base C "keep" 1 ["self", "houses", "roads", "rooms", "times"] (spKeep C)) (N_MOST_HOUSES : Num mg "MOST_HOUSES" 12) (N_MOST_ROOMS : Num mg "MOST_ROOMS" 3) (N_MOST_TIME : Num mg "MOST_TIME" 3) :
    FnOk P w K mg base CX0 4 f fd ["self", "houses", "roads", "rooms", "times"] (spKeep C) := by
  refine F.ok sc_Web_init (fun vs H Q E h => ?_) (fun cdv A outer s H vs Q E hr h => ?_)
  · obtain ⟨m, dx, W, vr, vm, vt, rfl, _⟩ := h
    rfl
  · obtain ⟨m, dx, W, vr, vm, vt, rfl, hm, h1, h2, h3, wok, k⟩ := h
    have hu64 := hr.units
    refine ⟨_, (pss_cons (ps_if (pt_not (pt_val (pe_callC c_is_within (hr.mono (by decide)) (by rfl) (pa_cons (pv 1) (pa_cons pe_int (pa_cons (pe_num N_MOST_HOUSES (by rfl)) pa_nil))))))
    (pss_one ps_never)
    pss_nil)
    (pss_cons (ps_if (pt_not (pt_val (pe_callC c_are_roads (hr.mono (by decide)) (by rfl) (pa_cons (pv 2) (pa_cons (pv 1) pa_nil)))))
    (pss_one ps_never)
    pss_nil)
    (pss_cons (ps_if (pt_not (pt_val (pe_callC c_are_counts (hr.mono (by decide)) (by rfl) (pa_cons (pv 3) (pa_cons (pe_callB (kLen (K := K)) (by rfl) B.len b_len (pa_cons (pv 2) pa_nil)) (pa_cons (pe_num N_MOST_ROOMS (by rfl)) pa_nil))))))
    (pss_one ps_never)
    pss_nil)
    (pss_cons (ps_if (pt_not (pt_val (pe_callC c_are_counts (hr.mono (by decide)) (by rfl) (pa_cons (pv 4) (pa_cons (pe_callB (kLen (K := K)) (by rfl) B.len b_len (pa_cons (pv 2) pa_nil)) (pa_cons (pe_num N_MOST_TIME (by rfl)) pa_nil))))))
    (pss_one ps_never)
    pss_nil)
    (pss_one (ps_expr (pe_methC c_keep (hr.mono (by decide)) (pv 0) (pa_cons (pv 1) (pa_cons (pv 2) (pa_cons (pv 3) (pa_cons (pv 4) pa_nil))))))))))), ?_⟩
    have r7 := wok.r7
    refine q_when (b := false) (et_is (et_not (a := true) (et_test (ev_callWithin (ev_var rfl) ev_c ev_c wok.h2 wok.h12))) rfl) (fun z => by cases z) fun _ H1 e1 => ?_
    refine q_when (b := false) (et_is (et_not (a := true) (et_test (ev_callP (eap_d (ed_var rfl (h1.ex e1)) (eap_v (ev_var rfl) eap_nil)) fun vs H2 e2 hp Q q => ?_))) rfl) (fun z => by cases z) fun _ H2 e2 => ?_
    · obtain ⟨x, _, rfl, hx, _, rfl, rfl⟩ := hp
      exact ⟨x, W, rfl, hx, wok, q⟩
    have e12 := e1.trans e2
    have hlen : ∀ {H'}, Ex H H' → Ev (tCB (rLenQ K) (tCons (tVar 2) tNil)) [some (V.ref m), some (V.int W.houses), some vr, some vm, some vt] H' (.int (W.roads.length : Nat)) := fun {H'} e => ev_lenM (f := fun p : Int × Int => .tuple [.int p.1, .int p.2]) (ED.es (ed_var rfl (h1.ex e)))
    refine q_when (b := false) (et_is (et_not (a := true) (et_test (ev_callP (eap_d (ed_var rfl (h2.ex e12)) (eap_v (hlen e12) (eap_v ev_c eap_nil))) fun vs H3 e3 hp Q q => ?_))) rfl) (fun z => by cases z) fun _ H3 e3 => ?_
    · obtain ⟨x, _, rfl, hx, _, rfl, _, rfl, rfl⟩ := hp
      exact ⟨x, W.rooms, 3, by rw [wok.lm], hx, by rw [wok.lm]; omega, wok.rooms, q⟩
    have e13 := e12.trans e3
    refine q_when (b := false) (et_is (et_not (a := true) (et_test (ev_callP (eap_d (ed_var rfl (h3.ex e13)) (eap_v (hlen e13) (eap_v ev_c eap_nil))) fun vs H4 e4 hp Q q => ?_))) rfl) (fun z => by cases z) fun _ H4 e4 => ?_
    · obtain ⟨x, _, rfl, hx, _, rfl, _, rfl, rfl⟩ := hp
      exact ⟨x, W.times, 3, by rw [wok.lt], hx, by rw [wok.lt]; omega, wok.times, q⟩
    have e14 := e13.trans e4
    refine ⟨_, rfl, m, dx, [], rfl, e14 _ _ hm, rfl, _, rfl, _, rfl, _, rfl, _, rfl, ?_⟩
    exact ⟨m, dx, W, vr, vm, vt, rfl, e14 _ _ hm, h1.ex e14, h2.ex e14, h3.ex e14, wok, fun H' F hM => k H' ((Fk.of e14).trans F) hM⟩
theorem ok_l_web_of (F : Fun K "_law_web_of" "_law_web_of" s_l_web_of f fd) (B : Bl mg) (c_Web : CalN P w K mg base "Web" C 4 ["self", "houses", "roads", "rooms", "times"] (spKeep C)) : FnOk P w K mg base CX0 6 f fd ["_law_web_here"] (spWebOf C) := by
  refine F.ok sc_l_web_of (fun vs H Q E h => ?_) (fun cdv A outer s H vs Q E hr h => ?_)
  · obtain ⟨a, W, rfl, _⟩ := h
    rfl
  · obtain ⟨a, W, rfl, hW, wok, k⟩ := h
    refine ⟨_, (pss_one (ps_ret (pe_makeC c_Web (hr.mono (by decide)) (by rfl) (pa_cons (pe_ix (kIx (K := K)) (pv 0) pe_int (fun _ _ => rfl)) (pa_cons (pe_ix (kIx (K := K)) (pv 0) pe_int (fun _ _ => rfl)) (pa_cons (pe_ix (kIx (K := K)) (pv 0) pe_int (fun _ _ => rfl)) (pa_cons (pe_ix (kIx (K := K)) (pv 0) pe_int (fun _ _ => rfl)) pa_nil))))))), ?_⟩
    refine s_retMake (eap_v (ED.ev (ed_ixn (j := 0) (hW.es (ev_var rfl)) ev_c rfl)) (eap_d (ed_roads hW (ev_var rfl)) (eap_d (ed_rooms hW (ev_var rfl)) (eap_d (ed_times hW (ev_var rfl)) eap_nil)))) fun ws H1 e1 hp x dx hx hdx hne => ?_
    obtain ⟨_, rfl, vr, _, rfl, h1, vm, _, rfl, h2, vt, _, rfl, h3, rfl⟩ := hp
    have e2 : Ex H1 (upd (upd H1 dx (.own x)) x (.ins C dx [])) := (Ex.new hdx).trans (Ex.new (by rw [upd_ne hne.symm]; exact hx))
    refine ⟨x, dx, W, vr, vm, vt, rfl, upd_same, h1.ex e2, h2.ex e2, h3.ex e2, wok, fun H' F hM => ⟨rfl, k x H' (fresh_back e1 hx) (fun b o hb => ?_) hM⟩⟩
    have hb1 := e1 _ _ hb
    have hne2 : b ≠ x := fun z => by rw [z, hx] at hb1; cases hb1
    exact F b o hne2 (e2 _ _ hb1)
end
end Z
/-! Pc: is_road, is_way, is_told, could_be. -/
namespace Z
open PySem PySem.Spec PyProof.Rows L2 Evl

structure WayOk (W : Web) (w : List Nat) : Prop where
  l1 : 1 ≤ w.length
  l8 : w.length ≤ 8
  roads : ∀ x ∈ w, x < W.roads.length
  next : ∀ i, i + 1 < w.length → w.getD (i + 1) 0 ∈ nexts W (w.getD i 0)
/-- what is told of a way, where only the roads of the lot are told -/
structure ToldOk (lot : List Nat) (w : List Nat) (told : List (Option Int)) : Prop where
  len : told.length = w.length
  at_ : ∀ i, i < w.length → ((told.getD i none).isSome ↔ w.getD i 0 ∈ lot)
/-- low, ahead of place p -/
def lowTo (W : Web) (w : List Nat) (told : List (Option Int)) (come : Int) : Nat → Option Int
  | 0 => some come
  | p + 1 => match lowTo W w told come p with
    | none => none
    | some lo => match told.getD p none with
      | some x => if x < lo then none else some (if (p : Int) < (w.length : Int) - 1 then x + W.times.getD (w.getD p 0) 0 else x)
      | none => some (if (p : Int) < (w.length : Int) - 1 then lo + W.times.getD (w.getD p 0) 0 else lo)
def couldB (W : Web) (w : List Nat) (come home : Int) (told : List (Option Int)) : Bool := match lowTo W w told come w.length with
  | none => false
  | some lo => decide (lo ≤ home) && (decide (told.getLastD none = none) || decide (told.getLastD none = some home))
theorem low_none {W : Web} {w : List Nat} {told : List (Option Int)} {come : Int} {p : Nat} (h : lowTo W w told come p = none) : ∀ q, p ≤ q → lowTo W w told come q = none := fun q hq => by
  induction q with
  | zero =>
    have : p = 0 := by omega
    rw [this] at h
    exact h
  | succ q ih =>
    by_cases e : p = q + 1
    · rw [← e]
      exact h
    · have := ih (by omega)
      unfold lowTo
      rw [this]
def spIsRoad (C : Addr) : Sp := fun vs H Q _ => ∃ (m : Addr) (W : Web) (r : Nat), vs = [.ref m, .int (r : Int)] ∧ MadeAt H C m W ∧ r < W.roads.length ∧ ∀ H', Ex H H' → Q (.bl true) H'
def spIsWay (C : Addr) : Sp := fun vs H Q _ => ∃ (m : Addr) (wv : V) (W : Web) (w : List Nat), vs = [.ref m, wv] ∧ MadeAt H C m W ∧ Dt H (dWay w) wv ∧ WayOk W w ∧ ∀ H', Ex H H' → Q (.bl true) H'
def spIsTold : Sp := fun vs H Q _ => ∃ (wv tv lv : V) (w lot : List Nat) (told : List (Option Int)), vs = [wv, tv, lv] ∧ Dt H (dWay w) wv ∧ Dt H (.tuple (told.map dOpt)) tv ∧ Dt H (dWay lot) lv ∧ w.length ≤ 1000 ∧ ToldOk lot w told ∧ ∀ H', Ex H H' → Q (.bl true) H'
def spCould (C : Addr) : Sp := fun vs H Q _ => ∃ (m : Addr) (wv tv : V) (W : Web) (w : List Nat) (come home : Int) (told : List (Option Int)), vs = [.ref m, wv, .int come, .int home, tv] ∧ MadeAt H C m W ∧ Dt H (dWay w) wv ∧ Dt H (.tuple (told.map dOpt)) tv ∧ 1 ≤ w.length ∧ w.length ≤ 1000 ∧
  told.length = w.length ∧ (∀ x ∈ w, x < W.times.length) ∧ ∀ H', Ex H H' → Q (.bl (couldB W w come home told)) H'
abbrev s_is_road : Stmt := top 22
abbrev N_is_road : List Str := ["web", "thing"]
theorem sc_is_road : FnScope N_is_road ["web", "thing"] (defScope s_is_road) := ⟨rfl, rfl, rfl, by decide +kernel, rfl, by decide +kernel, by decide +kernel⟩
abbrev s_is_way : Stmt := top 23
abbrev N_is_way : List Str := ["web", "thing", "at", "road"]
theorem sc_is_way : FnScope N_is_way ["web", "thing"] (defScope s_is_way) := ⟨rfl, rfl, rfl, by decide +kernel, rfl, by decide +kernel, by decide +kernel⟩
abbrev s_is_told : Stmt := top 25
abbrev N_is_told : List Str := ["way", "told", "lot", "road", "item"]
theorem sc_is_told : FnScope N_is_told ["way", "told", "lot"] (defScope s_is_told) := ⟨rfl, rfl, rfl, by decide +kernel, rfl, by decide +kernel, by decide +kernel⟩
abbrev s_could_be : Stmt := top 26
abbrev N_could_be : List Str := ["web", "way", "come", "home", "told", "low", "place", "road"]
theorem sc_could_be : FnScope N_could_be ["web", "way", "come", "home", "told"] (defScope s_could_be) := ⟨rfl, rfl, rfl, by decide +kernel, rfl, by decide +kernel, by decide +kernel⟩
section
variable {K : PySem.W.Frag} {σ : L2.St} {H : Hp} {ta tb tc te tl : TE} {tt : TT} {vs : List Nat} {d : PyData} {i j : Nat}
/-- x in xs, of numbers -/
theorem ev_inN {n : Nat} {ns : List Nat} (ha : Ev ta σ H (.int (n : Int))) (hs : ES tb σ H (ns.map iN)) : Ev (tOp (rIn K false) ta tb) σ H (.bl (decide (n ∈ ns))) := by
  have e : ns.map iN = (ns.map fun n : Nat => (n : Int)).map PyData.int := by rw [List.map_map] <;> rfl
  rw [e] at hs
  have q := ev_inI (K := K) ha hs
  have e2 : decide ((n : Int) ∈ ns.map fun n : Nat => (n : Int)) = decide (n ∈ ns) := by
    have : ((n : Int) ∈ ns.map fun n : Nat => (n : Int)) ↔ n ∈ ns := ⟨fun h => by
      obtain ⟨m, hm, e⟩ := List.mem_map.mp h
      have : m = n := by omega
      exact this ▸ hm, fun h => List.mem_map.mpr ⟨n, h, rfl⟩⟩
    by_cases h : n ∈ ns
    · rw [decide_eq_true h, decide_eq_true (this.mpr h)]
    · rw [decide_eq_false h, decide_eq_false fun z => h (this.mp z)]
  rw [e2] at q
  exact q
/-- over range(1, n) -/
theorem eld_rng2 {ta : TA} {n : Nat} (out : Nat → PyData) (h : EvA ta σ H [.int 1, .int ((n + 1 : Nat) : Int)]) (hn : n ≤ 50000)
    (turn : ∀ i H', i < n → Ex H H' → wipe ((wipe σ vs).set j (some (.int ((i + 1 : Nat) : Int)))) vs = wipe σ vs ∧ EvT tt ((wipe σ vs).set j (some (.int ((i + 1 : Nat) : Int)))) H' true ∧ ED te ((wipe σ vs).set j (some (.int ((i + 1 : Nat) : Int)))) H' (out i)) :
    ELD (tLc (iRng2 ta) (gName j) tt te vs) σ H ((List.range n).map out) := by
  refine ELD.is (eld_walk (n := n) (fun _ => true) out mono_name hn fun H1 e1 R hR => ?_) (by rw [List.filter_eq_self.mpr (fun _ _ => rfl)])
  refine h H1 e1 _ fun H2 e2 => ⟨1, ((n + 1 : Nat) : Int), rfl, ⟨by omega, by omega, by omega, by omega⟩, ?_⟩
  have e0 : (((n + 1 : Nat) : Int) - 1).toNat = n := by omega
  rw [e0]
  refine hR _ H2 _ _ e2 walk_range (fun _ _ => trivial) fun i x H3 H4 hi e3 hy => ?_
  obtain ⟨rfl, rfl⟩ := hy
  dsimp only
  rw [show ((1 : Int) + (i : Int)) = ((i + 1 : Nat) : Int) by omega]
  obtain ⟨a, b, c⟩ := turn i H4 hi ((e1.trans e2).trans e3)
  exact ⟨Ex.refl _, Ex.refl _, a, b, fun _ => c⟩
/-- over zip(t, u), two tuples of one length -/
theorem eld_zip {α β : Type} {l : List α} {m : List β} {x0 : α} {y0 : β} (f : α → PyData) (g : β → PyData) (out : Nat → PyData) (hs : ED ta σ H (.tuple (l.map f))) (hs2 : ED tb σ H (.tuple (m.map g))) (hl : l.length = m.length) (hn : l.length ≤ 50000)
    (turn : ∀ n v v' H', n < l.length → Ex H H' → Dt H' (f (l.getD n x0)) v → Dt H' (g (m.getD n y0)) v' → wipe (((wipe σ vs).set i (some v)).set j (some v')) vs = wipe σ vs ∧ EvT tt (((wipe σ vs).set i (some v)).set j (some v')) H' true ∧ ED te (((wipe σ vs).set i (some v)).set j (some v')) H' (out n)) :
    ELD (tLc (iZf true true K (tCons ta (tCons tb tNil))) (gTup K 2 (gCons (gName i) (gCons (gName j) gNil))) tt te vs) σ H ((List.range l.length).map out) := by
  refine ELD.is (eld_walk (n := l.length) (fun _ => true) out (mono_tup (monoS_cons mono_name (monoS_cons mono_name monoS_nil))) hn fun H1 e1 R hR => ?_) (by rw [List.filter_eq_self.mpr (fun _ _ => rfl)])
  refine hs H1 e1 _ fun v H2 e2 hv => hs2 H2 (e1.trans e2) _ fun v' H3 e3 hv' => ?_
  obtain ⟨a, xs, rfl, ha, hx⟩ := hv
  obtain ⟨b, ys, rfl, hb, hy⟩ := hv'
  have l1 := hx.len
  have l2 := hy.len
  rw [List.length_map] at l1 l2
  have lm : min xs.length ys.length = l.length := by omega
  refine ⟨a, b, xs, ys, rfl, .inl (ex_rd e3 ha), .inl hb, ?_⟩
  refine hR _ H3 _ _ (e2.trans e3) (lm ▸ walk_zf (f := true) (g := true) (xs := xs) (ys := ys)) (fun H4 e4 => ⟨.inl (ex_rd (e3.trans e4) ha), .inl (ex_rd e4 hb)⟩) fun n x H4 H5 hi e4 hyy => ?_
  obtain ⟨T, x1, x2, rfl, hT, rfl, q1, q2⟩ := hyy
  have eT : Ex H4 (upd H4 T (.tup [x1, x2])) := Ex.new hT
  obtain ⟨d1, a1, a2⟩ := (hx.ex ((e3.trans e4).trans eT)).get' q1
  obtain ⟨d2, b1, b2⟩ := (hy.ex (e4.trans eT)).get' q2
  rw [map_at (x := x0) hi] at a1
  rw [map_at (x := y0) (by omega)] at b1
  cases a1
  cases b1
  obtain ⟨w1, w2, w3⟩ := turn n x1 x2 _ hi ((((e1.trans e2).trans e3).trans e4).trans eT) a2 b2
  exact ⟨eT, T, [x1, x2], rfl, SqT.of upd_same, rfl, _, _, rfl, _, _, rfl, rfl, Ex.refl _, w1, w2, fun _ => w3⟩
/-- x in (None, i) -/
theorem ev_inOpt {o : Option Int} {k : Int} (ha : ED ta σ H (dOpt o)) (hb : Ev tb σ H (.int k)) : Ev (tOp (rIn K false) ta (tTup (tCons (tC .non) (tCons tb tNil)))) σ H (.bl (decide (o = none) || decide (o = some k))) := fun H1 e1 Q q =>
  ha H1 e1 _ fun v H2 e2 hv => hb H2 (e1.trans e2) _ fun H3 e3 => ⟨by show 2 ≤ sizeLine; decide, fun p hp => by
    have e : Ex H3 (upd H3 p (.tup [.non, .int k])) := Ex.new hp
    have e0 := q _ ((e2.trans e3).trans e)
    cases o with
    | none =>
      have hv : v = .non := hv
      subst hv
      exact ⟨p, [.non, .int k], rfl, .inr (SqT.of upd_same), rfl, rfl, e0⟩
    | some x =>
      have hv : v = .int x := hv
      subst hv
      refine ⟨p, [.non, .int k], rfl, .inr (SqT.of upd_same), rfl, rfl, ?_⟩
      have z : inV (.int x) [.non, .int k] = decide (k = x) := by
        unfold inV
        rw [List.any_cons, List.any_cons, List.any_nil, Bool.or_false]
        have a : eqV .non (.int x) = false := rfl
        have b : eqV (.int k) (.int x) = (k == x) := rfl
        rw [a, b, Bool.false_or]
        rfl
      have z2 : (decide ((some x : Option Int) = none) || decide (some x = some k)) = decide (k = x) := by
        by_cases h : k = x
        · simp [h]
        · have h2 : ¬ x = k := fun z => h z.symm
          simp [h, h2]
      rw [z2] at e0
      show Q (.bl (inV (.int x) [.non, .int k])) _
      rw [z]
      exact e0⟩
theorem ev_callRoad {C m : Addr} {W : Web} {r : Nat} (ha : Ev ta σ H (.ref m)) (hM : MadeAt H C m W) (hb : Ev tb σ H (.int (r : Int))) (hr : r < W.roads.length) : Ev (tCall (spIsRoad C) [] E0 (tCons ta (tCons tb tNil))) σ H (.bl true) := ev_callP (eap_v ha (eap_v hb eap_nil)) fun vs H1 e1 hp Q q => by
  obtain ⟨_, rfl, _, rfl, rfl⟩ := hp
  exact ⟨m, W, r, rfl, hM.ex e1, hr, q⟩
theorem ev_callWay {C m : Addr} {W : Web} {w : List Nat} (ha : Ev ta σ H (.ref m)) (hM : MadeAt H C m W) (hb : ED tb σ H (dWay w)) (hw : WayOk W w) : Ev (tCall (spIsWay C) [] E0 (tCons ta (tCons tb tNil))) σ H (.bl true) := ev_callP (eap_v ha (eap_d hb eap_nil)) fun vs H1 e1 hp Q q => by
  obtain ⟨_, rfl, x, _, rfl, hx, rfl⟩ := hp
  exact ⟨m, x, W, w, rfl, hM.ex e1, hx, hw, q⟩
end
section
variable {P : Program} {w : World} {K : PySem.W.Frag} {mg : Str → Option Value} {base : Heap} {f : Addr} {fd : FuncData} {C : Addr}
theorem ok_is_road (F : Fun K "is_road" "is_road" s_is_road f fd) (B : Bl mg) (wc : WebC K C) (c_is_within : Cal P w K mg base "is_within" 2 ["thing", "least", "most"] spWithin) : FnOk P w K mg base CX0 3 f fd ["web", "thing"] (spIsRoad C) := by
  refine F.ok sc_is_road (fun vs H Q E h => ?_) (fun cdv A outer s H vs Q E hr h => ?_)
  · obtain ⟨m, W, r, rfl, _⟩ := h
    rfl
  · obtain ⟨m, W, r, rfl, hM, hrl, k⟩ := h
    refine ⟨_, (pss_one (ps_ret (pe_callC c_is_within (hr.mono (by decide)) (by rfl) (pa_cons (pv 1) (pa_cons pe_int (pa_cons (pe_op oSub (pe_callB (kLen (K := K)) (by rfl) B.len b_len (pa_cons (k_fld (K := K) (pv 0)) pa_nil)) pe_int) pa_nil)))))), ?_⟩
    exact s_ret (ev_callWithin (ev_var rfl) ev_c (ev_sub (ev_lenM (f := fun p : Int × Int => .tuple [.int p.1, .int p.2]) (hM.roads wc (ev_var rfl)).es) ev_c) (by omega) (by omega)) k
theorem ok_is_way (F : Fun K "is_way" "is_way" s_is_way f fd) (B : Bl mg) (wc : WebC K C) (N_MOST_WAY : Num mg "MOST_WAY" 8) (c_is_road : Cal P w K mg base "is_road" 3 ["web", "thing"] (spIsRoad C)) : FnOk P w K mg base CX0 4 f fd ["web", "thing"] (spIsWay C) := by
  refine F.ok sc_is_way (fun vs H Q E h => ?_) (fun cdv A outer s H vs Q E hr h => ?_)
  · obtain ⟨m, wv, W, w, rfl, _⟩ := h
    rfl
  · obtain ⟨m, wv, W, w, rfl, hM, hv, hw, k⟩ := h
    have hu64 := hr.units
    refine ⟨_, (pss_cons (ps_if (PW.pt (pw_or (pt_not (pt_val (pe_callB (kIsi (K := K)) (by rfl) B.isinstance b_isinstance (pa_cons (pv 1) (pa_cons (pe_bltn (v := .ty "tuple") (by rfl) B.tuple b_tuple rfl) pa_nil))))) (pw_or1 (pt_not (pt_chain oLe oLe pe_int (pe_callB (kLen (K := K)) (by rfl) B.len b_len (pa_cons (pv 1) pa_nil)) (pe_num N_MOST_WAY (by rfl)))))))
    (pss_one (ps_ret pe_bl))
    pss_nil)
    (pss_cons (ps_if (pt_not (pt_val (pe_callB (kAll (K := K)) (by rfl) B.all b_all (pa_cons (pe_lc (own := [("road", 3)]) rfl sc_is_way.nd (k_sq (K := K) (pv 1)) (blkOk_by (N := N_is_way) (sc := defScope s_is_way) (by decide +kernel)) (fun _ _ _ _ _ => (pg_name (i := 3) sc_is_way.nd rfl (.inl rfl))) (fun _ _ _ _ _ => pts_nil) (fun _ _ _ _ _ => (pe_callC c_is_road (hr.mono (by decide)) (by rfl) (pa_cons (pv 0) (pa_cons (pv 3) pa_nil))))) pa_nil))))
    (pss_one (ps_ret pe_bl))
    pss_nil)
    (pss_one (ps_ret (pe_callB (kAll (K := K)) (by rfl) B.all b_all (pa_cons (pe_lc (own := [("at", 2)]) rfl sc_is_way.nd (pi_range2 (by rfl) B.range (pa_cons pe_int (pa_cons (pe_callB (kLen (K := K)) (by rfl) B.len b_len (pa_cons (pv 1) pa_nil)) pa_nil))) (blkOk_by (N := N_is_way) (sc := defScope s_is_way) (by decide +kernel)) (fun _ _ _ _ _ => (pg_name (i := 2) sc_is_way.nd rfl (.inl rfl))) (fun _ _ _ _ _ => pts_nil) (fun _ _ _ _ _ => (pe_cmpR (kIn (K := K)) (pe_ix (kIx (K := K)) (pv 1) (pv 2) (fun _ _ => rfl)) (pe_ix (kIx (K := K)) (k_fld (K := K) (pv 0)) (pe_ix (kIx (K := K)) (pv 1) (pe_op oSub (pv 2) pe_int) (fun _ _ => rfl)) (fun _ _ => rfl)) (by rfl)))) pa_nil)))))), ?_⟩
    have l1 := hw.l1
    have l8 := hw.l8
    refine q_when (b := false) (et_is (et_or (a := false) (b := false) (et_not (a := true) (et_B (ev_isi (ed_var rfl hv) (by show kitB "tuple" "tuple" = some true; decide +kernel)))) fun _ => et_not (a := true) (et_test (ev_chainLe ev_c (ev_lenM (f := iN) (ED.es (ed_var rfl hv))) ev_c (by omega) (by omega)))) rfl) (fun z => by cases z) fun _ H1 e1 => ?_
    refine q_when (b := false) (et_is (et_not (a := true) (et_B (ev_is (ev_allMap (l := w) (f := fun _ => true) (eld_bools w iN (fun _ => true) (ED.es (ed_var rfl (hv.ex e1))) mono_name (by omega) fun x y H3 hm e3 hd3 => ?_)) (by simp)))) rfl) (fun z => by cases z) fun _ H2 e2 => ?_
    · have hd3 : y = .int (x : Int) := hd3
      subst hd3
      exact ⟨Ex.refl _, rfl, fun _ _ _ q => q _ (Ex.refl _), ev_callRoad (ev_var rfl) (hM.ex (e1.trans e3)) (ev_var rfl) (hw.roads x hm)⟩
    have e12 := e1.trans e2
    have el : ((w.length : Nat) : Int) = ((w.length - 1 + 1 : Nat) : Int) := by omega
    refine s_ret (ev_is (ev_allMap (l := List.range (w.length - 1)) (f := fun _ => true) (eld_rng2 (n := w.length - 1) (fun _ => .bool true) (ea_cons ev_c (ea_cons (ev_isI (ev_lenM (f := iN) (ED.es (ed_var rfl (hv.ex e12)))) el) ea_nil)) (by omega) fun i H3 hi e3 => ⟨rfl, fun _ _ _ q => q _ (Ex.refl _), edB ?_⟩)) (by simp)) fun H3 e3 => k H3 (e12.trans e3)
    have hW : ∀ {σ : L2.St}, σ[1]? = some (some wv) → ED (tVar 1) σ H3 (dWay w) := fun hs => ed_var hs (hv.ex (e12.trans e3))
    have hi' : w.getD i 0 < W.roads.length := hw.roads _ (getD_mem (by omega))
    have q1 := ev_road (K := K) (i := i + 1) (hW (σ := [some (.ref m), some wv, some (.int ((i + 1 : Nat) : Int)), none]) rfl) (ev_var (i := 2) rfl) (by omega)
    have q2 := ev_road (K := K) (i := i) (hW (σ := [some (.ref m), some wv, some (.int ((i + 1 : Nat) : Int)), none]) rfl) (ev_isI (ev_sub (ev_var (i := 2) rfl) (ev_c (v := .int 1))) (by omega)) (by omega)
    have q3 : ED (tOp (rIx K) (tFld K (tVar 0) "kept_next") _) _ H3 (dWay (nexts W (w.getD i 0))) := ed_ixn ((hM.ex (e12.trans e3)).next wc (ev_var rfl)).es q2 (by
      have := map_at (l := List.range W.roads.length) (i := w.getD i 0) (x := 0) (f := fun r => dWay (nexts W r)) (by rw [List.length_range]; exact hi')
      rw [this, List.getD_eq_getElem?_getD (l := List.range _), List.getElem?_range hi'] <;> rfl)
    exact ev_is (ev_inN q1 q3.es) (by rw [decide_eq_true (hw.next i (by omega))])
theorem ok_is_told (F : Fun K "is_told" "is_told" s_is_told f fd) (B : Bl mg) (c_is_integer : Cal P w K mg base "is_integer" 1 ["thing"] spIsInt) : FnOk P w K mg base CX0 2 f fd ["way", "told", "lot"] spIsTold := by
  refine F.ok sc_is_told (fun vs H Q E h => ?_) (fun cdv A outer s H vs Q E hr h => ?_)
  · obtain ⟨wv, tv, lv, w, lot, told, rfl, _⟩ := h
    rfl
  · obtain ⟨wv, tv, lv, w, lot, told, rfl, hv, ht, hlv, hl, tok, k⟩ := h
    have hu64 := hr.units
    refine ⟨_, (pss_cons (ps_if (PW.pt (pw_or (pt_not (pt_val (pe_callB (kIsi (K := K)) (by rfl) B.isinstance b_isinstance (pa_cons (pv 1) (pa_cons (pe_bltn (v := .ty "tuple") (by rfl) B.tuple b_tuple rfl) pa_nil))))) (pw_or1 (pt_cmpR (kNe (K := K) hu64) (pe_callB (kLen (K := K)) (by rfl) B.len b_len (pa_cons (pv 1) pa_nil)) (pe_callB (kLen (K := K)) (by rfl) B.len b_len (pa_cons (pv 0) pa_nil)) (nomark _)))))
    (pss_one (ps_ret pe_bl))
    pss_nil)
    (pss_one (ps_ret (pe_callB (kAll (K := K)) (by rfl) B.all b_all (pa_cons (pe_lc (own := [("road", 3), ("item", 4)]) rfl sc_is_told.nd (k_zf (K := K) true true (by rfl) B.zip (pa_cons (pv 0) (pa_cons (pv 1) pa_nil))) (blkOk_by (N := N_is_told) (sc := defScope s_is_told) (by decide +kernel)) (fun _ _ _ _ _ => (k_tup (K := K) (n := 2) (by rfl) (pgs_cons (pg_name (i := 3) sc_is_told.nd rfl (.inl rfl)) (pgs_cons (pg_name (i := 4) sc_is_told.nd rfl (.inl rfl)) pgs_nil)))) (fun _ _ _ _ _ => pts_nil) (fun _ _ _ _ _ => (pe_ifExp (pt_cmpR (kIn (K := K)) (pv 3) (pv 2) (by rfl)) (pe_callC c_is_integer (hr.mono (by decide)) (by rfl) (pa_cons (pv 4) pa_nil)) (pe_cmpR oIs (pv 4) pe_non (nomark _))))) pa_nil))))), ?_⟩
    refine q_when (b := false) (et_is (et_or (a := false) (b := false) (et_not (a := true) (et_B (ev_isi (ed_var rfl ht) (by show kitB "tuple" "tuple" = some true; decide +kernel)))) fun _ => et_is (et_test (ev_neI (ev_lenM (f := dOpt) (ED.es (ed_var rfl ht))) (ev_lenM (f := iN) (ED.es (ed_var rfl hv))))) (by rw [tok.len, decide_eq_true rfl] <;> rfl)) rfl) (fun z => by cases z) fun _ H1 e1 => ?_
    refine s_ret (ev_is (ev_allMap (l := List.range w.length) (f := fun _ => true) (eld_zip (l := w) (m := told) (x0 := 0) (y0 := none) iN dOpt (fun _ => .bool true) (ed_var rfl (hv.ex e1)) (ed_var rfl (ht.ex e1)) tok.len.symm (by omega) fun n x y H2 hn e2 hx hy => ⟨rfl, fun _ _ _ q => q _ (Ex.refl _), edB ?_⟩)) (by simp)) fun H2 e2 => k H2 (e1.trans e2)
    have hx : x = .int ((w.getD n 0 : Nat) : Int) := hx
    subst hx
    refine ev_if (et_test (ev_inN (ns := lot) (ev_var rfl) (ED.es (ed_var rfl (hlv.ex (e1.trans e2)))))) (fun hb => ?_) (fun hb => ?_)
    · have hs := (tok.at_ n hn).mpr (of_decide_eq_true hb)
      cases ho : told.getD n none with
      | none => rw [ho] at hs; cases hs
      | some i =>
        rw [ho] at hy
        have hy : y = .int i := hy
        subst hy
        exact ev_callInt (ev_var rfl)
    · have hs : ¬ (told.getD n none).isSome := fun z => of_decide_eq_false hb ((tok.at_ n hn).mp z)
      cases ho : told.getD n none with
      | some i => rw [ho] at hs; exact absurd rfl hs
      | none =>
        rw [ho] at hy
        have hy : y = .non := hy
        subst hy
        exact ev_is (ev_isN (ev_var rfl)) rfl
theorem ok_could_be (F : Fun K "could_be" "could_be" s_could_be f fd) (B : Bl mg) (wc : WebC K C) : FnOk P w K mg base CX0 1 f fd ["web", "way", "come", "home", "told"] (spCould C) := by
  refine F.ok sc_could_be (fun vs H Q E h => ?_) (fun cdv A outer s H vs Q E hr h => ?_)
  · obtain ⟨m, wv, tv, W, w, come, home, told, rfl, _⟩ := h
    rfl
  · obtain ⟨m, wv, tv, W, w, come, home, told, rfl, hM, hv, ht, l1, l2, hl, hx, k⟩ := h
    have hu64 := hr.units
    refine ⟨_, (pss_cons (ps_set (i := 5) sc_could_be.nd rfl (.inl rfl) (pv 2))
    (pss_cons (ps_for PassesOwn.never rfl (k_ef (K := K) true (by rfl) B.enumerate (pa_cons (pv 1) pa_nil)) (k_tup (K := K) (n := 2) (by rfl) (pgs_cons (pg_name (i := 6) sc_could_be.nd rfl (.inl rfl)) (pgs_cons (pg_name (i := 7) sc_could_be.nd rfl (.inl rfl)) pgs_nil)))
    (pss_cons (ps_if (pt_cmpR oIsNot (pe_ix (kIx (K := K)) (pv 4) (pv 6) (fun _ _ => rfl)) pe_non (nomark _))
      (pss_cons (ps_if (pt_cmpR oLt (pe_ix (kIx (K := K)) (pv 4) (pv 6) (fun _ _ => rfl)) (pv 5) (nomark _))
        (pss_one (ps_ret pe_bl))
        pss_nil)
        (pss_one (ps_set (i := 5) sc_could_be.nd rfl (.inl rfl) (pe_ix (kIx (K := K)) (pv 4) (pv 6) (fun _ _ => rfl)))))
      pss_nil)
      (pss_one (ps_if (pt_cmpR oLt (pv 6) (pe_op oSub (pe_callB (kLen (K := K)) (by rfl) B.len b_len (pa_cons (pv 1) pa_nil)) pe_int) (nomark _))
      (pss_one (ps_aug (i := 5) sc_could_be.nd rfl (.inl rfl) (pe_ix (kIx (K := K)) (k_fld (K := K) (pv 0)) (pv 7) (fun _ _ => rfl)) ip_add))
      pss_nil))))
    (pss_one (ps_ret (pe_and (pe_cmpR oGe (pv 3) (pv 5) (nomark _)) (pe_one (pe_cmpR (kIn (K := K)) (pe_ix (kIx (K := K)) (pv 4) (pe_un oNeg pe_int) (fun _ _ => rfl)) (pe_tup (pa_cons pe_non (pa_cons (pv 3) pa_nil))) (by rfl)))))))), ?_⟩
    refine q_asg (ev_var rfl) fun H1 e1 => ?_
    refine q_forEnV (ds := w.map iN) (ev_var rfl) (hv.ex e1) (fun i σ' H' => ∃ lo o6 o7, σ' = [some (.ref m), some wv, some (.int come), some (.int home), some tv, some (.int lo), o6, o7] ∧ lowTo W w told come i = some lo ∧ Ex H1 H') (fun i σ' H' ⟨_, _, _, _, _, e⟩ => Ex.tk e) (fun H2 e2 => ⟨come, none, none, rfl, rfl, e2⟩) (fun i dd v σ' H2 H3 hdd hdv p e3 => ?_) fun σ' H2 p => ?_
    · obtain ⟨lo, o6, o7, rfl, hlo, e2⟩ := p
      rw [List.getElem?_map] at hdd
      cases hp : w[i]? with
      | none => rw [hp] at hdd; cases hdd
      | some r =>
        rw [hp] at hdd
        cases hdd
        have hdv : v = .int (r : Int) := hdv
        subst hdv
        have hi := (List.getElem?_eq_some_iff.mp hp).1
        have hre : w.getD i 0 = r := by rw [List.getD_eq_getElem?_getD, hp] <;> rfl
        have e13 := (e1.trans e2).trans e3
        have hst : ∀ {H' : Hp} {σ : L2.St}, Ex H H' → σ[4]? = some (some tv) → σ[6]? = some (some (.int (i : Int))) → ED (tOp (rIx K) (tVar 4) (tVar 6)) σ H' (dOpt (told.getD i none)) := fun e a b => ed_ixn (ED.es (ed_var a (ht.ex e))) (ev_var b) (map_at (by rw [hl]; exact hi))
        -- the last statement of a turn
        have fin : ∀ {H4 : Hp} {lo2 : Int} {D : Ends}, Ex H3 H4 → (∀ H5, Ex H4 H5 → D.nx [some (.ref m), some wv, some (.int come), some (.int home), some tv, some (.int (if (i : Int) < (w.length : Int) - 1 then lo2 + W.times.getD (w.getD i 0) 0 else lo2)), some (.int (i : Int)), some (.int (r : Int))] H5) →
            tIfS (tTest (tOp rLtI (tVar 6) (tOp rSubI (tCB (rLenQ K) (tCons (tVar 1) tNil)) (tC (.int 1))))) (tAug 5 (tOp (rIx K) (tFld K (tVar 0) "times") (tVar 7)) (ipI fun i j => i + j)) tNext D [some (.ref m), some wv, some (.int come), some (.int home), some tv, some (.int lo2), some (.int (i : Int)), some (.int (r : Int))] H4 := by
          intro H4 lo2 D e4 hk
          refine s_when (et_test (ev_lt (ev_var rfl) (ev_sub (ev_lenM (f := iN) (ED.es (ed_var rfl (hv.ex (e13.trans e4))))) ev_c))) (fun hb H5 e5 => ?_) (fun hb H5 e5 => ?_)
          · have hb := of_decide_eq_true hb
            refine s_aug rfl (ev_num (i := r) ((hM.ex ((e13.trans e4).trans e5)).times wc (ev_var rfl)) (ev_var rfl) (hx r (List.mem_of_getElem? hp))) fun H6 e6 => ?_
            have q := hk H6 (e5.trans e6)
            rw [if_pos hb, hre] at q
            exact q
          · have hb := of_decide_eq_false hb
            have q := hk H5 e5
            rw [if_neg hb] at q
            exact q
        cases ho : told.getD i none with
        | none =>
          rw [ho] at hst
          refine q_when (b := false) (et_test (ev_is (ev_notN (ED.evN (hst e13 rfl rfl))) rfl)) (fun z => by cases z) fun _ H4 e4 => ?_
          refine fin e4 fun H5 e5 => ⟨_, _, _, rfl, ?_, ((e2.trans e3).trans e4).trans e5⟩
          unfold lowTo
          rw [hlo, ho]
        | some x =>
          rw [ho] at hst
          refine q_when (b := true) (et_test (ev_is (ev_notN (ED.ev (hst e13 rfl rfl))) rfl)) (fun _ H4 e4 => ?_) (fun z => by cases z)
          refine q_when (et_test (ev_lt (ED.ev (hst (e13.trans e4) rfl rfl)) (ev_var rfl))) (fun hb H5 e5 => ?_) (fun hb H5 e5 => ?_)
          · have hb := of_decide_eq_true hb
            refine s_ret ev_c fun H6 e6 => ?_
            have hn : lowTo W w told come (i + 1) = none := by
              unfold lowTo
              rw [hlo, ho]
              exact if_pos hb
            have q := k H6 (((e13.trans e4).trans e5).trans e6)
            unfold couldB at q
            rw [low_none hn w.length hi] at q
            exact q
          · have hb := of_decide_eq_false hb
            refine s_asg (ED.ev (hst ((e13.trans e4).trans e5) rfl rfl)) fun H6 e6 => ?_
            refine fin ((e4.trans e5).trans e6) fun H7 e7 => ⟨_, _, _, rfl, ?_, ((e2.trans e3).trans ((e4.trans e5).trans e6)).trans e7⟩
            unfold lowTo
            rw [hlo, ho]
            exact if_neg hb
    · obtain ⟨lo, o6, o7, rfl, hlo, e2⟩ := p
      rw [List.length_map] at hlo
      have e12 := e1.trans e2
      have hlast : ED (tOp (rIx K) (tVar 4) (tUn rNeg (tC (.int 1)))) [some (.ref m), some wv, some (.int come), some (.int home), some tv, some (.int lo), o6, o7] H2 (dOpt (told.getLastD none)) := ed_ix (ED.es (ed_var rfl (ht.ex e12))) (ev_neg ev_c) (ix_last (fun z => by rw [z] at hl; simp at hl; omega))
      refine s_ret (ev_is (ev_andV (ev_ge (ev_var rfl) (ev_var rfl)) fun _ => ev_inOpt hlast (ev_var rfl)) ?_) fun H3 e3 => k H3 (e12.trans e3)
      unfold couldB
      rw [hlo]
end
end Z
/-! Pd: is_card, are_right_cards, told_roads, check_some_cards. -/
namespace Z
open PySem PySem.Spec PyProof.Rows L2 Evl

structure CardOk (W : Web) (lot : List Nat) (c : Card) : Prop where
  way : WayOk W c.way
  told : ToldOk lot c.way c.told
  come : 1 ≤ c.come
def negB (o : Option Int) : Bool := match o with
  | none => false
  | some i => decide (i < 0)
def isCardB (W : Web) (hours : Bool) (c : Card) : Bool := if hours then couldB W c.way c.come c.home c.told else !(c.told.any negB) && couldB W c.way c.come c.home (c.way.map fun _ => none)
def sortS (hours : Bool) : Str := if hours then "hours" else "turns"
def spIsCard (C : Addr) : Sp := fun vs H Q _ => ∃ (m : Addr) (lv cv : V) (W : Web) (lot : List Nat) (hours : Bool) (c : Card), vs = [.ref m, lv, .str (sortS hours), cv] ∧ MadeAt H C m W ∧ WebOk W ∧ Dt H (dWay lot) lv ∧ Dt H (dCard c) cv ∧ CardOk W lot c ∧ ∀ H', Ex H H' → Q (.bl (isCardB W hours c)) H'
def spRight (C : Addr) : Sp := fun vs H Q _ => ∃ (m : Addr) (lv cv : V) (W : Web) (lot : List Nat) (hours : Bool) (cs : List Card), vs = [.ref m, lv, .str (sortS hours), cv] ∧ MadeAt H C m W ∧ WebOk W ∧ Dt H (dWay lot) lv ∧ Dt H (dCards cs) cv ∧ (∀ c ∈ cs, CardOk W lot c) ∧ cs.length ≤ 1000 ∧ ∀ H', Ex H H' → Q (.bl (cs.all (isCardB W hours))) H'
def spToldRoads (C : Addr) : Sp := fun vs H Q _ => ∃ (m : Addr) (cv : V) (W : Web) (lot : List Nat) (cs : List Card), vs = [.ref m, cv] ∧ MadeAt H C m W ∧ Dt H (dCards cs) cv ∧ (∀ c ∈ cs, CardOk W lot c) ∧ cs.length ≤ 1000 ∧
  ∀ v H' lot', Ex H H' → Dt H' (dWay lot') v → (∀ c ∈ cs, CardOk W lot' c) → Q v H'
def spCheck (C : Addr) : Sp := fun vs H Q _ => ∃ (m : Addr) (cv : V) (W : Web) (lot : List Nat) (hours : Bool) (cs : List Card), vs = [.ref m, cv] ∧ MadeAt H C m W ∧ WebOk W ∧ Dt H (dCards cs) cv ∧ (∀ c ∈ cs, CardOk W lot c) ∧ cs.length ≤ 1000 ∧ cs.all (isCardB W hours) = true ∧ ∀ H', Ex H H' → Q .non H'
abbrev s_is_card : Stmt := top 27
abbrev N_is_card : List Str := ["web", "lot", "sort", "thing", "way", "come", "home", "told", "turn", "road"]
theorem sc_is_card : FnScope N_is_card ["web", "lot", "sort", "thing"] (defScope s_is_card) := ⟨rfl, rfl, rfl, by decide +kernel, rfl, by decide +kernel, by decide +kernel⟩
abbrev s_are_right_cards : Stmt := top 28
abbrev N_are_right_cards : List Str := ["web", "lot", "sort", "thing", "card"]
theorem sc_are_right_cards : FnScope N_are_right_cards ["web", "lot", "sort", "thing"] (defScope s_are_right_cards) := ⟨rfl, rfl, rfl, by decide +kernel, rfl, by decide +kernel, by decide +kernel⟩
abbrev s_told_roads : Stmt := top 31
abbrev N_told_roads : List Str := ["web", "thing", "told", "card", "road", "item"]
theorem sc_told_roads : FnScope N_told_roads ["web", "thing"] (defScope s_told_roads) := ⟨rfl, rfl, rfl, by decide +kernel, rfl, by decide +kernel, by decide +kernel⟩
abbrev s_check_some_cards : Stmt := top 32
abbrev N_check_some_cards : List Str := ["web", "thing", "lot"]
theorem sc_check_some_cards : FnScope N_check_some_cards ["web", "thing"] (defScope s_check_some_cards) := ⟨rfl, rfl, rfl, by decide +kernel, rfl, by decide +kernel, by decide +kernel⟩
def encL (lot : List Nat) (ks : List Nat) : List (L2.Key × V) := ks.map fun r : Nat => (.inl (r : Int), .bl (decide (r ∈ lot)))
theorem encL_some {lot ks : List Nat} {r : Nat} {v : V} (h : valV (encL lot ks) (.inl (r : Int)) = some v) : v = .bl (decide (r ∈ lot)) ∧ r ∈ ks := by
  unfold valV encL at h
  rw [List.find?_map] at h
  cases e : ks.find? ((fun kv : L2.Key × V => decide (kv.1 = (Sum.inl (r : Int) : L2.Key))) ∘ fun r : Nat => (.inl (r : Int), .bl (decide (r ∈ lot)))) with
  | none => rw [e] at h; cases h
  | some p =>
    rw [e] at h
    have h1 := List.mem_of_find?_eq_some e
    have h2 := List.find?_some e
    have h3 : (Sum.inl (p : Int) : L2.Key) = .inl (r : Int) := of_decide_eq_true h2
    injection h3 with h3
    have h4 : p = r := by omega
    subst h4
    exact ⟨(Option.some.inj h).symm, h1⟩
theorem encL_none {lot ks : List Nat} {r : Nat} (h : valV (encL lot ks) (.inl (r : Int)) = none) : r ∉ ks := fun hm => by
  have := valV_not h
  exact this (by
    unfold encL
    rw [List.map_map]
    exact List.mem_map.mpr ⟨r, hm, rfl⟩)
theorem encL_mem {lot ks : List Nat} {r : Nat} (h : r ∈ ks) : valV (encL lot ks) (.inl (r : Int)) = some (.bl (decide (r ∈ lot))) := by
  cases e : valV (encL lot ks) (.inl (r : Int)) with
  | none => exact absurd h (encL_none e)
  | some v => rw [(encL_some e).1]
section
variable {P : Program} {w : World} {K : PySem.W.Frag} {mg : Str → Option Value} {base : Heap} {f : Addr} {fd : FuncData} {C : Addr}
theorem ok_is_card (F : Fun K "is_card" "is_card" s_is_card f fd) (B : Bl mg) (c_is_way : Cal P w K mg base "is_way" 4 ["web", "thing"] (spIsWay C)) (c_is_integer : Cal P w K mg base "is_integer" 1 ["thing"] spIsInt)
    (c_is_told : Cal P w K mg base "is_told" 2 ["way", "told", "lot"] spIsTold) (c_could_be : Cal P w K mg base "could_be" 1 ["web", "way", "come", "home", "told"] (spCould C)) : FnOk P w K mg base CX0 5 f fd ["web", "lot", "sort", "thing"] (spIsCard C) := by
  refine F.ok sc_is_card (fun vs H Q E h => ?_) (fun cdv A outer s H vs Q E hr h => ?_)
  · obtain ⟨m, lv, cv, W, lot, hours, c, rfl, _⟩ := h
    rfl
  · obtain ⟨m, lv, cv, W, lot, hours, c, rfl, hM, wok, hl, hc, ok, k⟩ := h
    have hu64 := hr.units
    refine ⟨_, (pss_cons (ps_if (PW.pt (pw_or (pt_not (pt_val (pe_callB (kIsi (K := K)) (by rfl) B.isinstance b_isinstance (pa_cons (pv 3) (pa_cons (pe_bltn (v := .ty "tuple") (by rfl) B.tuple b_tuple rfl) pa_nil))))) (pw_or (pt_cmpR (kNe (K := K) hu64) (pe_callB (kLen (K := K)) (by rfl) B.len b_len (pa_cons (pv 3) pa_nil)) pe_int (nomark _)) (pw_or1 (pt_not (pt_val (pe_callC c_is_way (hr.mono (by decide)) (by rfl) (pa_cons (pv 0) (pa_cons (pe_ix (kIx (K := K)) (pv 3) pe_int (fun _ _ => rfl)) pa_nil)))))))))
    (pss_one (ps_ret pe_bl))
    pss_nil)
    (pss_cons (ps_asg (pv 3) (k_tup (K := K) (n := 4) (by rfl) (pgs_cons (pg_name (i := 4) sc_is_card.nd rfl (.inl rfl)) (pgs_cons (pg_name (i := 5) sc_is_card.nd rfl (.inl rfl)) (pgs_cons (pg_name (i := 6) sc_is_card.nd rfl (.inl rfl)) (pgs_cons (pg_name (i := 7) sc_is_card.nd rfl (.inl rfl)) pgs_nil))))))
    (pss_cons (ps_if (PW.pt (pw_or (pt_not (pt_val (pe_callC c_is_integer (hr.mono (by decide)) (by rfl) (pa_cons (pv 5) pa_nil)))) (pw_or (pt_cmpR oLt (pv 5) pe_int (nomark _)) (pw_or (pt_not (pt_val (pe_callC c_is_integer (hr.mono (by decide)) (by rfl) (pa_cons (pv 6) pa_nil)))) (pw_or1 (pt_not (pt_val (pe_callC c_is_told (hr.mono (by decide)) (by rfl) (pa_cons (pv 4) (pa_cons (pv 7) (pa_cons (pv 1) pa_nil)))))))))))
    (pss_one (ps_ret pe_bl))
    pss_nil)
    (pss_cons (ps_if (pt_cmpR (kEq (K := K) hu64) (pv 2) pe_str (nomark _))
    (pss_one (ps_ret (pe_callC c_could_be (hr.mono (by decide)) (by rfl) (pa_cons (pv 0) (pa_cons (pv 4) (pa_cons (pv 5) (pa_cons (pv 6) (pa_cons (pv 7) pa_nil))))))))
    pss_nil)
    (pss_cons (ps_if (pt_val (pe_callB (kAny (K := K)) (by rfl) B.any b_any (pa_cons (pe_lc (own := [("turn", 8)]) rfl sc_is_card.nd (k_sq (K := K) (pv 7)) (blkOk_by (N := N_is_card) (sc := defScope s_is_card) (by decide +kernel)) (fun _ _ _ _ _ => (pg_name (i := 8) sc_is_card.nd rfl (.inl rfl))) (fun _ _ _ _ _ => pts_nil) (fun _ _ _ _ _ => (pe_and (pe_cmpR oIsNot (pv 8) pe_non (nomark _)) (pe_one (pe_cmpR oLt (pv 8) pe_int (nomark _)))))) pa_nil)))
    (pss_one (ps_ret pe_bl))
    pss_nil)
    (pss_one (ps_ret (pe_callC c_could_be (hr.mono (by decide)) (by rfl) (pa_cons (pv 0) (pa_cons (pv 4) (pa_cons (pv 5) (pa_cons (pv 6) (pa_cons (pe_callTy (kTup (K := K)) (by rfl) B.tuple b_tuple (pa_cons (pe_lc (own := [("road", 9)]) rfl sc_is_card.nd (k_sq (K := K) (pv 4)) (blkOk_by (N := N_is_card) (sc := defScope s_is_card) (by decide +kernel)) (fun _ _ _ _ _ => (pg_name (i := 9) sc_is_card.nd rfl (.inl rfl))) (fun _ _ _ _ _ => pts_nil) (fun _ _ _ _ _ => pe_non)) pa_nil)) pa_nil))))))))))))), ?_⟩
    have w1 := ok.way.l1
    have w8 := ok.way.l8
    refine q_when (b := false) (et_is (et_or (a := false) (b := false) (et_not (a := true) (et_B (ev_isi (ed_var rfl hc) (by show kitB "tuple" "tuple" = some true; decide +kernel)))) fun _ => et_is (et_or (a := false) (b := false) (et_is (et_test (ev_neI (i := 4) (j := 4) (ev_len (ED.es (ed_var rfl hc))) ev_c)) rfl) fun _ => et_not (a := true) (et_B (ev_callWay (ev_var rfl) hM (ed_cway (ed_var rfl hc)) ok.way))) rfl) rfl) (fun z => by cases z) fun _ H1 e1 => ?_
    refine q_asgTup (ed_var rfl (hc.ex e1)) rfl fun vs H2 e2 hx => ?_
    obtain ⟨wv, _, rfl, hwv, v2, _, rfl, hv2, v3, _, rfl, hv3, tv, _, rfl, htv, hr4⟩ := hx
    cases (hr4 : _ = [])
    cases (hv2 : v2 = .int c.come)
    cases (hv3 : v3 = .int c.home)
    refine ⟨wv, _, rfl, _, _, rfl, _, _, rfl, tv, _, rfl, rfl, ?_⟩
    have e12 := e1.trans e2
    have come := ok.come
    refine q_when (b := false) (et_is (et_or (a := false) (b := false) (et_not (a := true) (et_B (ev_callInt (ev_var rfl)))) fun _ => et_is (et_or (a := false) (b := false) (et_is (et_test (ev_lt (ev_var rfl) ev_c)) (decide_eq_false (by omega))) fun _ => et_is (et_or (a := false) (b := false) (et_not (a := true) (et_B (ev_callInt (ev_var rfl)))) fun _ => et_not (a := true) (et_B (ev_callP (eap_d (ed_var rfl hwv) (eap_d (ed_var rfl htv) (eap_d (ed_var rfl (hl.ex e12)) eap_nil))) fun vs H3 e3 hp Q q => ?_))) rfl) rfl) rfl) (fun z => by cases z) fun _ H3 e3 => ?_
    · obtain ⟨x, _, rfl, hx, y, _, rfl, hy, z, _, rfl, hz, rfl⟩ := hp
      exact ⟨x, y, z, c.way, lot, c.told, rfl, hx, hy, hz, by omega, ok.told, q⟩
    have e13 := e12.trans e3
    have hxt : ∀ x ∈ c.way, x < W.times.length := fun x hx => by rw [wok.lt]; exact ok.way.roads x hx
    have hcall : ∀ {H' : Hp} {told : List (Option Int)} {te : TE} {σ : L2.St}, Ex H3 H' → told.length = c.way.length → ED te σ H' (.tuple (told.map dOpt)) → σ[0]? = some (some (.ref m)) → σ[4]? = some (some wv) → σ[5]? = some (some (.int c.come)) → σ[6]? = some (some (.int c.home)) →
        Ev (tCall (spCould C) [] E0 (tCons (tVar 0) (tCons (tVar 4) (tCons (tVar 5) (tCons (tVar 6) (tCons te tNil)))))) σ H' (.bl (couldB W c.way c.come c.home told)) := fun {H' told te σ} e hlen hte h0 h4 h5 h6 =>
      ev_callP (eap_v (ev_var h0) (eap_d (ed_var h4 (hwv.ex (e3.trans e))) (eap_v (ev_var h5) (eap_v (ev_var h6) (eap_d hte eap_nil))))) fun vs H4 e4 hp Q q => by
        obtain ⟨_, rfl, x, _, rfl, hx, _, rfl, _, rfl, y, _, rfl, hy, rfl⟩ := hp
        exact ⟨m, x, y, W, c.way, c.come, c.home, told, rfl, hM.ex ((e13.trans e).trans e4), hx, hy, w1, by omega, hlen, hxt, q⟩
    cases hours with
    | true =>
      refine q_when (b := true) (et_is (et_test (ev_eqS (ev_var rfl) ev_c)) (by decide +kernel)) (fun _ H4 e4 => ?_) (fun z => by cases z)
      exact s_ret (hcall e4 ok.told.len (ed_var rfl (htv.ex (e3.trans e4))) rfl rfl rfl rfl) fun H5 e5 => k H5 ((e13.trans e4).trans e5)
    | false =>
      refine q_when (b := false) (et_is (et_test (ev_eqS (ev_var rfl) ev_c)) (by decide +kernel)) (fun z => by cases z) fun _ H4 e4 => ?_
      have tl := ok.told.len
      refine q_when (et_B (ev_anyMap (l := c.told) (f := negB) (eld_bools c.told dOpt negB (ED.es (ed_var rfl (htv.ex (e3.trans e4)))) mono_name (by omega) fun o y H5 ho e5 hd => ⟨Ex.refl _, rfl, fun _ _ _ q => q _ (Ex.refl _), ?_⟩))) (fun hb H5 e5 => ?_) (fun hb H5 e5 => ?_)
      · cases o with
        | none =>
          have hd : y = .non := hd
          subst hd
          exact ev_andV (a := false) (b := false) (ev_is (ev_notN (ev_var rfl)) rfl) fun z => by cases z
        | some i =>
          have hd : y = .int i := hd
          subst hd
          exact ev_is (ev_andV (a := true) (b := decide (i < 0)) (ev_is (ev_notN (ev_var rfl)) rfl) fun _ => ev_lt (ev_var rfl) ev_c) (by rw [Bool.true_and] <;> rfl)
      · refine s_ret ev_c fun H6 e6 => ?_
        have q := k H6 (((e13.trans e4).trans e5).trans e6)
        unfold isCardB at q
        rw [if_neg (by decide), hb] at q
        exact q
      · have q2 := hcall (te := tCB (rTupQ K) (tCons (tLc (iSq K (tVar 4)) (gName 9) tYes (tC .non) [9]) tNil)) (told := c.way.map fun _ => none) (σ := [some (.ref m), some lv, some (.str (sortS false)), some cv, some wv, some (.int c.come), some (.int c.home), some tv, none, none]) (e4.trans e5) (by rw [List.length_map]) ?_ rfl rfl rfl rfl
        · refine s_ret q2 fun H6 e6 => ?_
          have q := k H6 (((e13.trans e4).trans e5).trans e6)
          unfold isCardB at q
          rw [if_neg (by decide), hb, Bool.not_false, Bool.true_and] at q
          exact q
        · exact ED.is (ed_tupleOf (ELD.es (eld_all c.way iN (fun _ => .none) (ED.es (ed_var rfl (hwv.ex ((e3.trans e4).trans e5)))) mono_name (by omega) fun x y H6 hx e6 hd => ⟨Ex.refl _, rfl, fun _ _ _ q => q _ (Ex.refl _), edN ev_c⟩))) (by rw [List.map_map] <;> rfl)
theorem ok_are_right_cards (F : Fun K "are_right_cards" "are_right_cards" s_are_right_cards f fd) (B : Bl mg) (c_is_card : Cal P w K mg base "is_card" 5 ["web", "lot", "sort", "thing"] (spIsCard C)) : FnOk P w K mg base CX0 6 f fd ["web", "lot", "sort", "thing"] (spRight C) := by
  refine F.ok sc_are_right_cards (fun vs H Q E h => ?_) (fun cdv A outer s H vs Q E hr h => ?_)
  · obtain ⟨m, lv, cv, W, lot, hours, cs, rfl, _⟩ := h
    rfl
  · obtain ⟨m, lv, cv, W, lot, hours, cs, rfl, hM, wok, hl, hc, ok, hn, k⟩ := h
    refine ⟨_, (pss_one (ps_ret (pe_and (pe_callB (kIsi (K := K)) (by rfl) B.isinstance b_isinstance (pa_cons (pv 3) (pa_cons (pe_bltn (v := .ty "tuple") (by rfl) B.tuple b_tuple rfl) pa_nil))) (pe_one (pe_callB (kAll (K := K)) (by rfl) B.all b_all (pa_cons (pe_lc (own := [("card", 4)]) rfl sc_are_right_cards.nd (k_sq (K := K) (pv 3)) (blkOk_by (N := N_are_right_cards) (sc := defScope s_are_right_cards) (by decide +kernel)) (fun _ _ _ _ _ => (pg_name (i := 4) sc_are_right_cards.nd rfl (.inl rfl))) (fun _ _ _ _ _ => pts_nil) (fun _ _ _ _ _ => (pe_callC c_is_card (hr.mono (by decide)) (by rfl) (pa_cons (pv 0) (pa_cons (pv 1) (pa_cons (pv 2) (pa_cons (pv 4) pa_nil))))))) pa_nil)))))), ?_⟩
    refine s_ret (ev_is (ev_andV (a := true) (ev_isi (ed_var rfl hc) (by show kitB "tuple" "tuple" = some true; decide +kernel)) fun _ => ev_allMap (l := cs) (f := isCardB W hours) (eld_bools cs dCard (isCardB W hours) (ED.es (ed_var rfl hc)) mono_name (by omega) fun c y H1 hcm e1 hd => ⟨Ex.refl _, rfl, fun _ _ _ q => q _ (Ex.refl _), ev_callP (eap_v (ev_var rfl) (eap_d (ed_var rfl (hl.ex e1)) (eap_v (ev_var rfl) (eap_d (ed_var rfl hd) eap_nil)))) fun vs H2 e2 hp Q q => ?_⟩)) (Bool.true_and _ ▸ rfl)) k
    obtain ⟨_, rfl, x, _, rfl, hx, _, rfl, z, _, rfl, hz, rfl⟩ := hp
    exact ⟨m, x, z, W, lot, hours, c, rfl, hM.ex (e1.trans e2), wok, hx, hz, ok c hcm, q⟩
theorem ok_told_roads (F : Fun K "told_roads" "told_roads" s_told_roads f fd) (B : Bl mg) (c_is_way : Cal P w K mg base "is_way" 4 ["web", "thing"] (spIsWay C)) : FnOk P w K mg base CX0 5 f fd ["web", "thing"] (spToldRoads C) := by
  refine F.ok sc_told_roads (fun vs H Q E h => ?_) (fun cdv A outer s H vs Q E hr h => ?_)
  · obtain ⟨m, cv, W, lot, cs, rfl, _⟩ := h
    rfl
  · obtain ⟨m, cv, W, lot, cs, rfl, hM, hc, ok, hn, k⟩ := h
    have hu64 := hr.units
    have hu := hu_of hr
    refine ⟨_, (pss_cons (ps_set (i := 2) sc_told_roads.nd rfl (.inr rfl) pe_dnewK)
    (pss_cons (ps_for PassesOwn.never rfl (k_sq (K := K) (pv 1)) (pg_name (i := 3) sc_told_roads.nd rfl (.inl rfl))
    (pss_cons (ps_if (PW.pt (pw_or (pt_not (pt_val (pe_callB (kIsi (K := K)) (by rfl) B.isinstance b_isinstance (pa_cons (pv 3) (pa_cons (pe_bltn (v := .ty "tuple") (by rfl) B.tuple b_tuple rfl) pa_nil))))) (pw_or (pt_cmpR (kNe (K := K) hu64) (pe_callB (kLen (K := K)) (by rfl) B.len b_len (pa_cons (pv 3) pa_nil)) pe_int (nomark _)) (pw_or1 (pt_not (pt_val (pe_callC c_is_way (hr.mono (by decide)) (by rfl) (pa_cons (pv 0) (pa_cons (pe_ix (kIx (K := K)) (pv 3) pe_int (fun _ _ => rfl)) pa_nil)))))))))
      (pss_one (ps_ret pe_non))
      pss_nil)
      (pss_cons (ps_if (PW.pt (pw_or (pt_not (pt_val (pe_callB (kIsi (K := K)) (by rfl) B.isinstance b_isinstance (pa_cons (pe_ix (kIx (K := K)) (pv 3) pe_int (fun _ _ => rfl)) (pa_cons (pe_bltn (v := .ty "tuple") (by rfl) B.tuple b_tuple rfl) pa_nil))))) (pw_or1 (pt_cmpR (kNe (K := K) hu64) (pe_callB (kLen (K := K)) (by rfl) B.len b_len (pa_cons (pe_ix (kIx (K := K)) (pv 3) pe_int (fun _ _ => rfl)) pa_nil)) (pe_callB (kLen (K := K)) (by rfl) B.len b_len (pa_cons (pe_ix (kIx (K := K)) (pv 3) pe_int (fun _ _ => rfl)) pa_nil)) (nomark _)))))
      (pss_one (ps_ret pe_non))
      pss_nil)
      (pss_one (ps_for PassesOwn.never rfl (k_zf (K := K) true true (by rfl) B.zip (pa_cons (pe_ix (kIx (K := K)) (pv 3) pe_int (fun _ _ => rfl)) (pa_cons (pe_ix (kIx (K := K)) (pv 3) pe_int (fun _ _ => rfl)) pa_nil))) (k_tup (K := K) (n := 2) (by rfl) (pgs_cons (pg_name (i := 4) sc_told_roads.nd rfl (.inl rfl)) (pgs_cons (pg_name (i := 5) sc_told_roads.nd rfl (.inl rfl)) pgs_nil)))
      (pss_one (ps_if (pt_cmpR (kNe (K := K) hu64) (pe_dsetd (pv 2) (pv 4) (pe_cmpR oIsNot (pv 5) pe_non (nomark _)) ⟨rfl, rfl, rfl, rfl⟩) (pe_cmpR oIsNot (pv 5) pe_non (nomark _)) (nomark _))
        (pss_one (ps_ret pe_non))
        pss_nil)))))))
    (pss_one (ps_ret (pe_callTy (kTup (K := K)) (by rfl) B.tuple b_tuple (pa_cons (pe_lc (own := [("road", 4)]) rfl sc_told_roads.nd (k_sq (K := K) (pe_callB (kSortD (K := K) hu64) (by rfl) B.sorted b_sorted (pa_cons (pe_callTy (kLst (K := K)) (by rfl) B.list b_list (pa_cons (pv 2) pa_nil)) pa_nil))) (blkOk_by (N := N_told_roads) (sc := defScope s_told_roads) (by decide +kernel)) (fun _ _ _ _ _ => (pg_name (i := 4) sc_told_roads.nd rfl (.inl rfl))) (fun _ _ _ _ _ => (pts_one (pt_val (pe_dget hu (pv 2) (pv 4) (fun _ _ => rfl))))) (fun _ _ _ _ _ => (pv 4))) pa_nil)))))), ?_⟩
    intro d hd
    show tSeq _ _ _ [some (V.ref m), some cv, some (V.ref d), none, none, none] _
    have e0 : Ex H (upd H d (.dK [])) := Ex.new hd
    have sqd : ∀ {ff : Bool} {H1 : Hp} {a : Addr} {xs : List V} {kvs : List (L2.Key × V)}, Sq0 ff H1 a xs → H1 d = some (.dK kvs) → a ≠ d := fun {ff H1 a xs kvs} h q z => by
      subst z
      cases ff with
      | false =>
        have h : H1 a = some (.lst xs) := h
        rw [q] at h
        cases h
      | true =>
        rcases h with h | ⟨o, h⟩ <;> rw [q] at h <;> cases h
    have tkd : ∀ {H1 : Hp} {kvs kvs' : List (L2.Key × V)}, H1 d = some (.dK kvs) → Tk H1 (upd H1 d (.dK kvs')) := fun {H1 kvs kvs'} q a xs h => rd_upd h (rd_ne h q (fun z => by cases z) (fun _ z => by cases z))
    refine q_forS (ED.es (ed_var rfl (hc.ex e0))) (fun ff a xs i σ' H' => ∃ ks o3 o4 o5, σ' = [some (V.ref m), some cv, some (V.ref d), o3, o4, o5] ∧ Ex H H' ∧ H' d = some (.dK (encL lot ks)) ∧ ks.Nodup ∧ ks.length ≤ 8 * i ∧ (∀ c ∈ cs.take i, ∀ x ∈ c.way, x ∈ ks) ∧ Sq0 ff H' a xs ∧ DtA H' (cs.map dCard) xs) (fun ff a xs H1 e1 hs hx => ⟨[], none, none, none, rfl, e0.trans e1, e1 _ _ upd_same, List.nodup_nil, Nat.le_refl _, fun c hc => by simp at hc, hs, hx⟩) (fun ff a xs i σ' H' _ ⟨_, _, _, _, _, _, _, _, _, _, q1, q2⟩ => ⟨q1, q2⟩) (fun ff a xs i dd v σ' H1 hdd hdv p => ?_) fun ff a xs σ' H1 p => ?_
    · obtain ⟨ks, o3, o4, o5, rfl, ex, hd1, nd, kl, kin, hs, hx⟩ := p
      rw [List.getElem?_map] at hdd
      cases hp : cs[i]? with
      | none => rw [hp] at hdd; cases hdd
      | some c =>
        rw [hp] at hdd
        cases hdd
        have okc := ok c (List.mem_of_getElem? hp)
        have w8 := okc.way.l8
        have tl := okc.told.len
        have hi := (List.getElem?_eq_some_iff.mp hp).1
        show tSeq _ _ _ [some (V.ref m), some cv, some (V.ref d), some v, o4, o5] _
        refine q_when (b := false) (et_is (et_or (a := false) (b := false) (et_not (a := true) (et_B (ev_isi (ed_var rfl hdv) (by show kitB "tuple" "tuple" = some true; decide +kernel)))) fun _ => et_is (et_or (a := false) (b := false) (et_is (et_test (ev_neI (i := 4) (j := 4) (ev_len (ED.es (ed_var rfl hdv))) ev_c)) rfl) fun _ => et_not (a := true) (et_B (ev_callWay (ev_var rfl) (hM.ex ex) (ed_cway (ed_var rfl hdv)) okc.way))) rfl) rfl) (fun z => by cases z) fun _ H2 e2 => ?_
        refine q_when (b := false) (et_is (et_or (a := false) (b := false) (et_not (a := true) (et_B (ev_isi (ed_ctold (ed_var rfl (hdv.ex e2))) (by show kitB "tuple" "tuple" = some true; decide +kernel)))) fun _ => et_is (et_test (ev_neI (ev_lenM (f := dOpt) (ed_ctold (ed_var rfl (hdv.ex e2))).es) (ev_lenM (f := iN) (ed_cway (ed_var rfl (hdv.ex e2))).es))) (by rw [tl, decide_eq_true rfl] <;> rfl)) rfl) (fun z => by cases z) fun _ H3 e3 => ?_
        have e13 := e2.trans e3
        have hdv3 := hdv.ex e13
        obtain ⟨b, _, rfl, hb, wv, _, rfl, hwv, v2, _, rfl, hv2, v3, _, rfl, hv3, tv, _, rfl, htv, hr4⟩ := hdv3
        cases (hr4 : _ = [])
        refine s_forZtV (ds := c.way.map iN) (ds' := c.told.map dOpt) (v := wv) (v' := tv) (ev_ixT (ev_var rfl) hb ev_c (atI_nat (j := 0) rfl)) hwv (ev_ixT (ev_var rfl) hb ev_c (atI_nat (j := 3) rfl)) htv (by rw [List.length_map, List.length_map, tl]) (fun n σ' H' => ∃ ks o4 o5, σ' = [some (V.ref m), some cv, some (V.ref d), some (V.ref b), o4, o5] ∧ Ex H H' ∧ H' d = some (.dK (encL lot ks)) ∧ ks.Nodup ∧ ks.length ≤ 8 * i + n ∧ (∀ c ∈ cs.take i, ∀ x ∈ c.way, x ∈ ks) ∧ (∀ x ∈ c.way.take n, x ∈ ks) ∧ Sq0 ff H' a xs ∧ DtA H' (cs.map dCard) xs ∧ Tk H3 H')
          (fun n σ' H' ⟨_, _, _, _, _, _, _, _, _, _, _, _, q⟩ => q) (fun H4 e4 => ⟨ks, o4, o5, rfl, (ex.trans e13).trans e4, e4 _ _ (e13 _ _ hd1), nd, kl, kin, fun x hx => by simp at hx, (hs.ex e13).ex e4, (hx.ex e13).ex e4, Ex.tk e4⟩) (fun n d1 d2 x x2 σ' H4 H5 hd1 hd2 hx1 hx2 p e5 => ?_) fun σ' H4 p => ?_
        · obtain ⟨ks, o4, o5, rfl, ex, hd1', nd, kl, kin, kin2, hs, hx, tk⟩ := p
          rw [List.getElem?_map] at hd1 hd2
          cases hr : c.way[n]? with
          | none => rw [hr] at hd1; cases hd1
          | some r =>
            rw [hr] at hd1
            cases hd1
            cases ho : c.told[n]? with
            | none => rw [ho] at hd2; cases hd2
            | some o =>
              rw [ho] at hd2
              cases hd2
              cases (hx1 : x = .int (r : Int))
              have hn := (List.getElem?_eq_some_iff.mp hr).1
              have hat := okc.told.at_ n hn
              rw [List.getD_eq_getElem?_getD, ho, List.getD_eq_getElem?_getD, hr] at hat
              have hat : o.isSome ↔ r ∈ lot := hat
              have hno : (!decide (x2 = .non)) = decide (r ∈ lot) := by
                cases o with
                | none =>
                  cases (hx2 : x2 = .non)
                  have hm : r ∉ lot := fun z => by cases hat.mpr z
                  show (!decide (V.non = V.non)) = decide (r ∈ lot)
                  rw [decide_eq_false hm, decide_eq_true rfl] <;> rfl
                | some i =>
                  cases (hx2 : x2 = .int i)
                  show (!decide (V.int i = V.non)) = decide (r ∈ lot)
                  rw [decide_eq_true (hat.mp rfl)] <;> rfl
              have hitem : ∀ {H' : Hp}, Ev (tOp rNotNo (tVar 5) (tC .non)) [some (V.ref m), some cv, some (V.ref d), some (V.ref b), some (V.int (r : Int)), some x2] H' (.bl (decide (r ∈ lot))) := fun {H'} => ev_is (ev_notN (ev_var rfl)) (congrArg V.bl hno)
              show tIfS _ _ _ _ [some (V.ref m), some cv, some (V.ref d), some (V.ref b), some (V.int (r : Int)), some x2] _
              have hd5 := e5 _ _ hd1'
              refine ⟨.ref d, rfl, d, rfl, .inl ⟨_, .inl hd5⟩, _, rfl, hitem H5 (Ex.refl _) _ fun H6 e6 => ⟨encL lot ks, .inl (r : Int), e6 _ _ hd5, rfl, ?_, fun u hu => ?_, fun hu => ?_⟩⟩
              · unfold encL
                rw [List.length_map, sizeLine_eq]
                omega
              · obtain ⟨rfl, hrk⟩ := encL_some hu
                refine hitem H6 (Ex.refl _) _ fun H7 e7 => .inl ⟨rfl, ?_⟩
                rw [decide_eq_true rfl]
                refine ⟨_, rfl, ?_⟩
                have e57 := (e5.trans e6).trans e7
                show ∃ ks o4 o5, _
                refine ⟨ks, _, _, rfl, ex.trans e57, e57 _ _ hd1', nd, by omega, kin, fun y hy => ?_, hs.ex e57, hx.ex e57, tk.trans (Ex.tk e57)⟩
                rw [take_snoc hr] at hy
                rcases List.mem_append.mp hy with hy | hy
                · exact kin2 y hy
                · rw [List.mem_singleton.mp hy]
                  exact hrk
              · have hrk := encL_none hu
                have hd6 := e6 _ _ hd5
                have ep : putK (encL lot ks) (.inl (r : Int)) (.bl (decide (r ∈ lot))) = encL lot (ks ++ [r]) := by
                  rw [putK_new _ hu]
                  unfold encL
                  rw [List.map_append] <;> rfl
                rw [ep]
                refine hitem _ (Ex.refl _) _ fun H7 e7 => .inl ⟨rfl, ?_⟩
                rw [decide_eq_true rfl]
                refine ⟨_, rfl, ?_⟩
                have tk6 := tkd (kvs' := encL lot (ks ++ [r])) hd6
                have e56 := e5.trans e6
                have hne := sqd (hs.ex e56) hd6
                show ∃ ks o4 o5, _
                refine ⟨ks ++ [r], _, _, rfl, fun y u hy => e7 _ _ ?_, e7 _ _ upd_same, nodup_snoc nd hrk, by rw [List.length_append]; show _ + 1 ≤ _; omega, fun c hc y hy => List.mem_append_left _ (kin c hc y hy), fun y hy => ?_, Sq0.ex ?_ e7, ((hx.ex e56).tk tk6).ex e7, ((tk.trans (Ex.tk e56)).trans tk6).trans (Ex.tk e7)⟩
                · rw [upd_ne (ne_of_none hy hd)]
                  exact e56 _ _ (ex _ _ hy)
                · rw [take_snoc hr] at hy
                  rcases List.mem_append.mp hy with hy | hy
                  · exact List.mem_append_left _ (kin2 y hy)
                  · exact List.mem_append_right _ hy
                · cases ff with
                  | false =>
                    have h := hs.ex e56
                    have h : H6 a = some (.lst xs) := h
                    show upd H6 d _ a = _
                    rw [upd_ne hne]
                    exact h
                  | true => exact tk6 _ _ (hs.ex e56)
        · obtain ⟨ks, o4, o5, rfl, ex, hd1', nd, kl, kin, kin2, hs, hx, tk⟩ := p
          rw [List.length_map] at kl kin2
          refine ⟨ks, _, _, _, rfl, ex, hd1', nd, by omega, fun c' hc' y hy => ?_, hs, hx⟩
          rw [take_snoc hp] at hc'
          rcases List.mem_append.mp hc' with hc' | hc'
          · exact kin c' hc' y hy
          · rw [List.mem_singleton.mp hc'] at hy
            exact kin2 y (by rw [List.take_length]; exact hy)
    · obtain ⟨ks, o3, o4, o5, rfl, ex, hd1, nd, kl, kin, hs, hx⟩ := p
      rw [List.length_map, List.take_length] at kin
      rw [List.length_map] at kl
      have hkeys : ELD (tCB (rLstQ K) (tCons (tVar 2) tNil)) [some (V.ref m), some cv, some (V.ref d), o3, o4, o5] H1 ((ks.map fun r : Nat => (r : Int)).map PyData.int) := fun H2 e2 Q q => ⟨_, rfl, .inr ⟨d, encL lot ks, rfl, e2 _ _ hd1, fun l hl => by
        have e : (encL lot ks).map (fun kv => kV kv.1) = (ks.map fun r : Nat => (r : Int)).map V.int := by
          unfold encL
          rw [List.map_map, List.map_map] <;> rfl
        rw [e]
        exact q l _ _ hl (Ex.new hl) upd_same (dta_ints _)⟩⟩
      have hmem : ∀ x ∈ sortI (ks.map fun r : Nat => (r : Int)), ∃ r : Nat, r ∈ ks ∧ (r : Int) = x := fun x hx => List.mem_map.mp ((sortI_perm _).mem_iff.mp hx)
      have hlen : (sortI (ks.map fun r : Nat => (r : Int))).length ≤ 8000 := by
        rw [(sortI_perm _).length_eq, List.length_map]
        omega
      refine s_retD (ED.is (ed_tupleOf (ELD.es (eld_over (sortI (ks.map fun r : Nat => (r : Int))) PyData.int (fun x => decide (x.toNat ∈ lot)) PyData.int (eld_sorted (enc := PyData.int) hkeys al_ints so_ints fun i _ => de_int i).es mono_name (by omega) fun x v H2 hxm e2 hv => ?_))) ?_) fun v H2 e2 hv => k v H2 (((sortI (ks.map fun r : Nat => (r : Int))).filter fun x => decide (x.toNat ∈ lot)).map Int.toNat) (ex.trans e2) hv fun c hc => ?_
      · obtain ⟨r, hr, rfl⟩ := hmem x hxm
        cases (hv : v = .int (r : Int))
        refine ⟨Ex.refl _, rfl, et_B (fun H3 e3 Q q => ⟨_, rfl, _, rfl, d, _, rfl, .inl ⟨_, .inl (r : Int), .inl (e3 _ _ (e2 _ _ hd1)), rfl, (encL_mem hr).symm⟩, ?_⟩), fun _ => edI (ev_var rfl)⟩
        exact q H3 (Ex.refl _)
      · unfold dWay
        rw [List.map_map]
        refine congrArg PyData.tuple (List.map_congr_left fun x hxm => ?_)
        obtain ⟨r, hr, rfl⟩ := hmem x (List.mem_filter.mp hxm).1
        rfl
      · refine ⟨(ok c hc).way, ⟨(ok c hc).told.len, fun i hi => ?_⟩, (ok c hc).come⟩
        rw [(ok c hc).told.at_ i hi]
        have hk := kin c hc (c.way.getD i 0) (getD_mem hi)
        refine ⟨fun h => ?_, fun h => ?_⟩
        · refine List.mem_map.mpr ⟨((c.way.getD i 0 : Nat) : Int), List.mem_filter.mpr ⟨(sortI_perm _).mem_iff.mpr (List.mem_map.mpr ⟨_, hk, rfl⟩), decide_eq_true (by rw [Int.toNat_natCast]; exact h)⟩, Int.toNat_natCast _⟩
        · obtain ⟨x, hx, e⟩ := List.mem_map.mp h
          have := of_decide_eq_true (List.mem_filter.mp hx).2
          rw [e] at this
          exact this
theorem ok_check_some_cards (F : Fun K "check_some_cards" "check_some_cards" s_check_some_cards f fd) (B : Bl mg) (c_told_roads : Cal P w K mg base "told_roads" 5 ["web", "thing"] (spToldRoads C)) (c_are_right_cards : Cal P w K mg base "are_right_cards" 6 ["web", "lot", "sort", "thing"] (spRight C)) :
    FnOk P w K mg base CX0 7 f fd ["web", "thing"] (spCheck C) := by
  refine F.ok sc_check_some_cards (fun vs H Q E h => ?_) (fun cdv A outer s H vs Q E hr h => ?_)
  · obtain ⟨m, cv, W, lot, hours, cs, rfl, _⟩ := h
    rfl
  · obtain ⟨m, cv, W, lot, hours, cs, rfl, hM, wok, hc, ok, hn, hall, k⟩ := h
    refine ⟨_, (pss_cons (ps_if (pt_not (pt_val (pe_callB (kIsi (K := K)) (by rfl) B.isinstance b_isinstance (pa_cons (pv 1) (pa_cons (pe_bltn (v := .ty "tuple") (by rfl) B.tuple b_tuple rfl) pa_nil)))))
    (pss_one ps_never)
    pss_nil)
    (pss_cons (ps_set (i := 2) sc_check_some_cards.nd rfl (.inl rfl) (pe_callC c_told_roads (hr.mono (by decide)) (by rfl) (pa_cons (pv 0) (pa_cons (pv 1) pa_nil))))
    (pss_cons (ps_if (pt_cmpR oIs (pv 2) pe_non (nomark _))
    (pss_one ps_never)
    pss_nil)
    (pss_one (ps_if (PW.pt (pw_and (pt_not (pt_val (pe_callC c_are_right_cards (hr.mono (by decide)) (by rfl) (pa_cons (pv 0) (pa_cons (pv 2) (pa_cons pe_str (pa_cons (pv 1) pa_nil))))))) (pw_and1 (pt_not (pt_val (pe_callC c_are_right_cards (hr.mono (by decide)) (by rfl) (pa_cons (pv 0) (pa_cons (pv 2) (pa_cons pe_str (pa_cons (pv 1) pa_nil))))))))))
    (pss_one ps_never)
    pss_nil))))), ?_⟩
    refine q_when (b := false) (et_is (et_not (a := true) (et_B (ev_isi (ed_var rfl hc) (by show kitB "tuple" "tuple" = some true; decide +kernel)))) rfl) (fun z => by cases z) fun _ H1 e1 => ?_
    refine q_call (eap_v (ev_var rfl) (eap_d (ed_var rfl (hc.ex e1)) eap_nil)) fun vs H2 e2 hp => ?_
    obtain ⟨_, rfl, x, _, rfl, hx, rfl⟩ := hp
    refine ⟨m, x, W, lot, cs, rfl, hM.ex (e1.trans e2), hx, ok, hn, fun v H3 lot' e3 hv ok' => ?_⟩
    have e13 := (e1.trans e2).trans e3
    obtain ⟨b, bxs, rfl, hbb, hbx⟩ := hv
    have hv : Dt H3 (dWay lot') (.ref b) := ⟨b, bxs, rfl, hbb, hbx⟩
    refine q_when (b := false) (et_test (ev_is (ev_isN (ev_var rfl)) rfl)) (fun z => by cases z) fun _ H4 e4 => ?_
    have hcall : ∀ {H' : Hp} (hh : Bool), Ex H4 H' → Ev (tCall (spRight C) [] E0 (tCons (tVar 0) (tCons (tVar 2) (tCons (tC (.str (sortS hh))) (tCons (tVar 1) tNil))))) [some (V.ref m), some cv, some (V.ref b)] H' (.bl (cs.all (isCardB W hh))) := fun {H'} hh e => ev_callP (eap_v (ev_var rfl) (eap_d (ed_var rfl (hv.ex (e4.trans e))) (eap_v ev_c (eap_d (ed_var rfl (hc.ex ((e13.trans e4).trans e))) eap_nil)))) fun vs H5 e5 hp Q q => by
      obtain ⟨_, rfl, y, _, rfl, hy, _, rfl, z, _, rfl, hz, rfl⟩ := hp
      exact ⟨m, y, z, W, lot', hh, cs, rfl, hM.ex (((e13.trans e4).trans e).trans e5), wok, hy, hz, ok', hn, q⟩
    refine s_when (b := false) (et_is (et_and (et_not (et_B (hcall true (Ex.refl _)))) fun _ => et_not (et_B (hcall false (Ex.refl _)))) ?_) (fun z => by cases z) fun _ H5 e5 => k H5 ((e13.trans e4).trans e5)
    cases hours with
    | true => rw [hall] <;> rfl
    | false => rw [hall, Bool.not_true, Bool.and_false]
end
end Z
/-! Pe: Guided: __init__, ready, waits_at, chosen. -/
namespace Z
open PySem PySem.Spec PyProof.Rows L2 Evl

structure GuiC (K : PySem.W.Frag) (C : Addr) : Prop where
  cls : Cls K C
  na : ∀ f ∈ (["web", "cards", "ahead", "choose", "rows", "past"] : List Str), NoAttr K C f
def fsG (m : Addr) (cv : V) (sight : Int) (cho : V) (rp : Addr) (pv : V) : List (Str × V) := [("web", .ref m), ("cards", cv), ("ahead", .int sight), ("choose", cho), ("rows", .ref rp), ("past", pv)]
/-- the play as Guided has it -/
structure GAt (H : Hp) (C CG s m dx : Addr) (W : Web) (cs : List Card) (cv : V) (sight : Int) (cho : V) (rp : Addr) (pv : V) : Prop where
  self : H s = some (.ins CG dx (fsG m cv sight cho rp pv))
  made : MadeAt H C m W
  cards : Dt H (dCards cs) cv
theorem GAt.ex {H H' : Hp} {C CG s m dx : Addr} {W : Web} {cs : List Card} {cv cho pv : V} {sight : Int} {rp : Addr} (h : GAt H C CG s m dx W cs cv sight cho rp pv) (e : Ex H H') : GAt H' C CG s m dx W cs cv sight cho rp pv := ⟨e _ _ h.self, h.made.ex e, h.cards.ex e⟩
section
variable {K : PySem.W.Frag} {σ : L2.St} {H : Hp} {ta tb te : TE} {C CG s m dx rp : Addr} {W : Web} {cs : List Card} {cv cho pv : V} {sight : Int}
theorem GAt.fWeb (c : GuiC K CG) (h : GAt H C CG s m dx W cs cv sight cho rp pv) (ha : Ev ta σ H (.ref s)) : Ev (tFld K ta "web") σ H (.ref m) := ev_fld ha h.self c.cls (c.na _ (by decide)) rfl
theorem GAt.fCards (c : GuiC K CG) (h : GAt H C CG s m dx W cs cv sight cho rp pv) (ha : Ev ta σ H (.ref s)) : ED (tFld K ta "cards") σ H (dCards cs) := ed_of (ev_fld ha h.self c.cls (c.na _ (by decide)) rfl) h.cards
theorem GAt.fCardsV (c : GuiC K CG) (h : GAt H C CG s m dx W cs cv sight cho rp pv) (ha : Ev ta σ H (.ref s)) : Ev (tFld K ta "cards") σ H cv := ev_fld ha h.self c.cls (c.na _ (by decide)) rfl
theorem GAt.fAhead (c : GuiC K CG) (h : GAt H C CG s m dx W cs cv sight cho rp pv) (ha : Ev ta σ H (.ref s)) : Ev (tFld K ta "ahead") σ H (.int sight) := ev_fld ha h.self c.cls (c.na _ (by decide)) rfl
theorem GAt.fRows (c : GuiC K CG) (h : GAt H C CG s m dx W cs cv sight cho rp pv) (ha : Ev ta σ H (.ref s)) : Ev (tFld K ta "rows") σ H (.ref rp) := ev_fld ha h.self c.cls (c.na _ (by decide)) rfl
theorem GAt.fPast (c : GuiC K CG) (h : GAt H C CG s m dx W cs cv sight cho rp pv) (ha : Ev ta σ H (.ref s)) : Ev (tFld K ta "past") σ H pv := ev_fld ha h.self c.cls (c.na _ (by decide)) rfl
/-- self.cards[n] -/
theorem GAt.card {n : Nat} (c : GuiC K CG) (h : GAt H C CG s m dx W cs cv sight cho rp pv) (ha : Ev ta σ H (.ref s)) (hb : Ev tb σ H (.int (n : Int))) (hn : n < cs.length) : ED (tOp (rIx K) (tFld K ta "cards") tb) σ H (dCard (cs.getD n card0)) := ed_ixn (h.fCards c ha).es hb (map_at hn)
theorem q_fldX {Good : V → Hp → Prop} {tv : TE} {D : Ends} {tz : TS} {fs : List (Str × V)} {f : Str} (hv : ∀ Q : VK, (∀ y H1, Ex H H1 → Good y H1 → Q y H1) → tv σ H Q) (ha : Ev ta σ H (.ref s)) (ho : H s = some (.ins C dx fs)) (hc : Cls K C) (hn : NoAttr K C f) (hl : fs.length < 1000)
    (k : ∀ y H1 H2, Ex H H1 → Good y H1 → Ex H1 H2 → tz D σ (upd H2 s (.ins C dx (putF f y fs)))) : tSeq (sFld K ta tv f) tz D σ H :=
  hv _ fun y H1 e1 hy => ha H1 e1 _ fun H2 e2 => ⟨s, C, dx, fs, rfl, (e1.trans e2) _ _ ho, hc, hn, hl, k y H1 H2 e1 hy e2⟩
/-- frozen tuple as an argument -/
theorem eap_frz {ds : List PyData} {tr : TA} {P : List V → Hp → Prop} (h : ES ta σ H ds) (hl : ∀ H1, Ex H H1 → ∀ Q : VK, (∀ a vs H2, Ex H1 H2 → H2 a = some (.lst vs) → DtA H2 ds vs → Q (.ref a) H2) → ta σ H1 Q) (hr : EAP tr σ H P) :
    EAP (tCons (tCB (rTupQ K) (tCons ta tNil)) tr) σ H fun vs H' => ∃ x ys r, vs = x :: r ∧ PlainT H' x ys ∧ DtA H' ds ys ∧ P r H' := fun H1 e1 _ q =>
  hl H1 e1 _ fun a xs H2 e2 h2 hx => .inr ⟨a, xs, rfl, SqL.of h2, fun l o hl' ho => hr _ ((e1.trans e2).trans (Ex.new hl')) _ fun vs H3 e3 p => by
    refine q _ H3 ((e2.trans (Ex.new hl')).trans e3) ⟨_, xs, vs, rfl, ⟨l, o, rfl, e3 _ _ upd_same, ho⟩, (hx.ex (Ex.new hl')).ex e3, p⟩⟩
/-- over enumerate(t) -/
theorem eld_enum {α : Type} {tt : TT} {vs : List Nat} {i j : Nat} {l : List α} {x0 : α} (f : α → PyData) (b : Nat → Bool) (out : Nat → PyData) (hs : ED ta σ H (.tuple (l.map f))) (hn : l.length ≤ 50000)
    (turn : ∀ n v H', n < l.length → Ex H H' → Dt H' (f (l.getD n x0)) v → wipe (((wipe σ vs).set i (some (.int (n : Int)))).set j (some v)) vs = wipe σ vs ∧ EvT tt (((wipe σ vs).set i (some (.int (n : Int)))).set j (some v)) H' (b n) ∧ ED te (((wipe σ vs).set i (some (.int (n : Int)))).set j (some v)) H' (out n)) :
    ELD (tLc (iEf true K (tCons ta tNil)) (gTup K 2 (gCons (gName i) (gCons (gName j) gNil))) tt te vs) σ H (((List.range l.length).filter b).map out) := by
  refine eld_walk (n := l.length) b out (mono_tup (monoS_cons mono_name (monoS_cons mono_name monoS_nil))) hn fun H1 e1 R hR => ?_
  refine hs H1 e1 _ fun v H2 e2 hv => ?_
  obtain ⟨a, xs, rfl, ha, hx⟩ := hv
  have l1 := hx.len
  rw [List.length_map] at l1
  refine ⟨a, xs, rfl, .inl ha, ?_⟩
  refine hR _ H2 _ _ e2 (l1 ▸ walk_ef (f := true) (xs := xs)) (fun H4 e4 => .inl (ex_rd e4 ha)) fun n x H4 H5 hi e4 hyy => ?_
  obtain ⟨T, x1, x2, rfl, hT, rfl, q1, q2⟩ := hyy
  cases q1
  have eT : Ex H4 (upd H4 T (.tup [.int (n : Int), x2])) := Ex.new hT
  obtain ⟨d1, a1, a2⟩ := (hx.ex (e4.trans eT)).get' q2
  rw [map_at (x := x0) hi] at a1
  cases a1
  obtain ⟨w1, w2, w3⟩ := turn n x2 _ hi (((e1.trans e2).trans e4).trans eT) a2
  exact ⟨eT, T, [.int (n : Int), x2], rfl, SqT.of upd_same, rfl, _, _, rfl, _, _, rfl, rfl, Ex.refl _, w1, w2, fun _ => w3⟩
theorem ev_lenSet {ns : List Nat} (h : ES ta σ H (ns.map iN)) (nd : ns.Nodup) (hl : ns.length ≤ 4000) : Ev (tLenSetA K ta) σ H (.int (ns.length : Nat)) := fun H1 e1 Q q =>
  h H1 e1 _ fun f a vs H2 e2 hsq hd => by
    refine ⟨f, a, ns.map fun n : Nat => (n : Int), rfl, ?_, List.pairwise_map.mpr (nd.imp fun {x y} z e => z (by omega)), by rw [List.length_map]; exact hl, by rw [List.length_map]; exact q H2 e2⟩
    have e : (ns.map fun n : Nat => (n : Int)).map V.int = vs := by
      rw [dta_nats hd, List.map_map] <;> rfl
    rw [e]
    exact hsq.sq
end
theorem due_eq (W : Web) (l : Let) (row : List Int) (tick t : Int) (h : ready W l row = some t) (ht : t ≤ tick) : due W l row tick = some (l.1.getD row.length 0) := by
  unfold due
  rw [h]
  exact if_pos ht
def spGInit (CG : Addr) : Sp := fun vs H Q _ => ∃ (s dx m : Addr) (cv cho : V) (sight : Int) (cs : List Card), vs = [.ref s, .ref m, cv, .int sight, cho] ∧ H s = some (.ins CG dx []) ∧ Dt H (dCards cs) cv ∧ cs.length ≤ 1000 ∧
  ∀ rp rs pv H', Fk (fun b => b = s) H H' → H' s = some (.ins CG dx (fsG m cv sight cho rp pv)) → RowsAt H' rp rs (cs.map fun _ => []) → (∀ r ∈ rs, H r = none) → H rp = none → rp ∉ rs → Dt H' (.tuple []) pv → Q .non H'
def spGReady (C CG : Addr) : Sp := fun vs H Q _ => ∃ (s m dx rp : Addr) (rs : List Addr) (W : Web) (cs : List Card) (cv cho pv : V) (sight : Int) (rows : List (List Int)) (n : Nat), vs = [.ref s, .int (n : Int)] ∧ GAt H C CG s m dx W cs cv sight cho rp pv ∧ RowsAt H rp rs rows ∧ FitR W (lets cs) rows ∧ n < cs.length ∧
  ∀ H', Ex H H' → Q (vOpt (ready W ((cs.getD n card0).way, (cs.getD n card0).come) (rows.getD n []))) H'
def spGWaits (C CG : Addr) : Sp := fun vs H Q _ => ∃ (s m dx rp : Addr) (rs : List Addr) (W : Web) (cs : List Card) (cv cho pv : V) (sight : Int) (rows : List (List Int)) (tick : Int), vs = [.ref s, .int tick] ∧ GAt H C CG s m dx W cs cv sight cho rp pv ∧ RowsAt H rp rs rows ∧ FitR W (lets cs) rows ∧ cs.length ≤ 1000 ∧
  ∀ (d : Addr) (H' : Hp) (es : List (Int × Addr)), DW H H' d es (nums W (lets cs) rows tick cs.length) → es.length ≤ cs.length → Q (.ref d) H'
def spChosen (C CG : Addr) : Sp := fun vs H Q _ => ∃ (s m dx rp f g l a wl : Addr) (N L : LF) (o : Who) (cs : List Card) (cv pv : V) (sight : Int) (q : Asked) (ts wvs : List V), vs = [.ref s, .int (q.road : Int), .int q.tick, .ref wl] ∧ GAt H C CG s m dx o.W cs cv sight (.ref f) rp pv ∧
  H wl = some (.lst wvs) ∧ DtA H (q.waiting.map iN) wvs ∧ q.seen = seenAt cs (q.tick + sight) ∧ Dt H (dPast q.past) pv ∧ NotAt H f g l a N L o ∧ H l = some (.lst ts) ∧ ts.length < 50000 ∧ AskOk o.W q ∧ q.waiting.Nodup ∧ wl ≠ l ∧ s ≠ l ∧ m ≠ l ∧ cs.length ≤ 1000 ∧
  ∀ (k : Bool) (b t : Addr) (ys : List V) (H' : Hp), Fr1 l H H' → H' l = some (.lst (ts ++ [.ref t])) → Dt H' (dAsked q) (.ref t) → Sq0 k H' b ys → DtA H' ((picks o.kind o.salt o.W q).map iN) ys → Q (.ref b) H'
abbrev s_Guided_init : Stmt := inClass (top 33) 0
abbrev N_Guided_init : List Str := ["self", "web", "cards", "ahead", "choose", "card"]
theorem sc_Guided_init : FnScope N_Guided_init ["self", "web", "cards", "ahead", "choose"] (defScope s_Guided_init) := ⟨rfl, rfl, rfl, by decide +kernel, rfl, by decide +kernel, by decide +kernel⟩
abbrev s_Guided_ready : Stmt := inClass (top 33) 1
abbrev N_Guided_ready : List Str := ["self", "number", "row", "way"]
theorem sc_Guided_ready : FnScope N_Guided_ready ["self", "number"] (defScope s_Guided_ready) := ⟨rfl, rfl, rfl, by decide +kernel, rfl, by decide +kernel, by decide +kernel⟩
abbrev s_Guided_waits_at : Stmt := inClass (top 33) 2
abbrev N_Guided_waits_at : List Str := ["self", "tick", "found", "number", "ready"]
theorem sc_Guided_waits_at : FnScope N_Guided_waits_at ["self", "tick"] (defScope s_Guided_waits_at) := ⟨rfl, rfl, rfl, by decide +kernel, rfl, by decide +kernel, by decide +kernel⟩
abbrev s_Guided_chosen : Stmt := inClass (top 33) 3
abbrev N_Guided_chosen : List Str := ["self", "road", "tick", "waits", "seen", "told", "number", "card"]
theorem sc_Guided_chosen : FnScope N_Guided_chosen ["self", "road", "tick", "waits"] (defScope s_Guided_chosen) := ⟨rfl, rfl, rfl, by decide +kernel, rfl, by decide +kernel, by decide +kernel⟩
section
variable {P : Program} {w : World} {K : PySem.W.Frag} {mg : Str → Option Value} {base : Heap} {fa : Addr} {fd : FuncData} {C CG : Addr}
theorem ok_g_init (F : Fun K "__init__" "Guided.__init__" s_Guided_init fa fd) (B : Bl mg) (gc : GuiC K CG) : FnOk P w K mg base CX0 1 fa fd ["self", "web", "cards", "ahead", "choose"] (spGInit CG) := by
  refine F.ok sc_Guided_init (fun vs H Q E h => ?_) (fun cdv A outer s H vs Q E hr h => ?_)
  · obtain ⟨s, dx, m, cv, cho, sight, cs, rfl, _⟩ := h
    rfl
  · obtain ⟨s, dx, m, cv, cho, sight, cs, rfl, hm, hc, hn, k⟩ := h
    refine ⟨_, (pss_cons (ps_fld (pv 0) (pv 1) rfl)
    (pss_cons (ps_fld (pv 0) (pv 2) rfl)
    (pss_cons (ps_fld (pv 0) (pv 3) rfl)
    (pss_cons (ps_fld (pv 0) (pv 4) rfl)
    (pss_cons (ps_fld (pv 0) (pe_lc (own := [("card", 5)]) rfl sc_Guided_init.nd (k_sq (K := K) (pv 2)) (blkOk_by (N := N_Guided_init) (sc := defScope s_Guided_init) (by decide +kernel)) (fun _ _ _ _ _ => (pg_name (i := 5) sc_Guided_init.nd rfl (.inl rfl))) (fun _ _ _ _ _ => pts_nil) (fun _ _ _ _ _ => (pe_lst pa_nil))) rfl)
    (pss_one (ps_fld (pv 0) (pe_tup pa_nil) rfl))))))), ?_⟩
    have soft : ∀ {H' : Hp} {dx fs}, H' s = some (.ins CG dx fs) → So (fun b => b = s) H' := fun {H' dx fs} z b u q p => by
      subst q
      rw [z] at p
      cases p
      exact .inr ⟨_, _, _, rfl⟩
    refine q_fld (ev_var rfl) (ev_var rfl) hm gc.cls (gc.na _ (by decide)) (by decide) fun H1 e1 => ?_
    have F1 : Fk (fun b => b = s) H (upd H1 s (.ins CG dx (putF "web" (.ref m) []))) := (Fk.of e1).trans (Fk.at rfl)
    have hm1 : upd H1 s (.ins CG dx (putF "web" (.ref m) [])) s = some (.ins CG dx (putF "web" (.ref m) [])) := upd_same
    generalize upd H1 s (.ins CG dx (putF "web" (.ref m) [])) = G1 at *
    refine q_fld (ev_var rfl) (ev_var rfl) hm1 gc.cls (gc.na _ (by decide)) (by show 1 < 1000; decide) fun H2 e2 => ?_
    have F2 := (F1.trans (Fk.of e2)).trans (Fk.at (H := H2) (o := .ins CG dx (putF "cards" cv (putF "web" (.ref m) []))) (S := fun b => b = s) rfl)
    have hm2 : upd H2 s (.ins CG dx (putF "cards" cv (putF "web" (.ref m) []))) s = _ := upd_same
    generalize upd H2 s (.ins CG dx (putF "cards" cv (putF "web" (.ref m) []))) = G2 at *
    refine q_fld (ev_var rfl) (ev_var rfl) hm2 gc.cls (gc.na _ (by decide)) (by show 2 < 1000; decide) fun H3 e3 => ?_
    have F3 := (F2.trans (Fk.of e3)).trans (Fk.at (H := H3) (o := .ins CG dx (putF "ahead" (.int sight) (putF "cards" cv (putF "web" (.ref m) [])))) (S := fun b => b = s) rfl)
    have hm3 : upd H3 s (.ins CG dx (putF "ahead" (.int sight) (putF "cards" cv (putF "web" (.ref m) [])))) s = _ := upd_same
    generalize upd H3 s (.ins CG dx (putF "ahead" (.int sight) (putF "cards" cv (putF "web" (.ref m) [])))) = G3 at *
    refine q_fld (ev_var rfl) (ev_var rfl) hm3 gc.cls (gc.na _ (by decide)) (by show 3 < 1000; decide) fun H4 e4 => ?_
    have F4 := (F3.trans (Fk.of e4)).trans (Fk.at (H := H4) (o := .ins CG dx (putF "choose" cho (putF "ahead" (.int sight) (putF "cards" cv (putF "web" (.ref m) []))))) (S := fun b => b = s) rfl)
    have hm4 : upd H4 s (.ins CG dx (putF "choose" cho (putF "ahead" (.int sight) (putF "cards" cv (putF "web" (.ref m) []))))) s = _ := upd_same
    generalize upd H4 s (.ins CG dx (putF "choose" cho (putF "ahead" (.int sight) (putF "cards" cv (putF "web" (.ref m) []))))) = G4 at *
    have hc4 := hc.tk (F4.tk (soft hm))
    clear F1 F2 F3 hm1 hm2 hm3 e1 e2 e3 e4
    have back : ∀ {b : Addr}, G4 b = none → b ≠ s → H b = none := fun {b} z n => by
      cases q : H b with
      | none => rfl
      | some u => rw [F4 b u n q] at z; cases z
    refine q_fldX (Good := fun y H2 => ∃ rp rs, y = .ref rp ∧ G4 rp = none ∧ RowsAt H2 rp rs (cs.map fun _ => []) ∧ (∀ r ∈ rs, G4 r = none) ∧ rp ∉ rs) (fun Q q => er_new cs dCard (ED.es (ed_var rfl hc4)) (fun _ => rfl) (fun _ _ _ q => q) (by omega) fun p rs H2 hp e hR hrs hpr => q _ H2 e ⟨p, rs, rfl, hp, hR, hrs, hpr⟩) (ev_var rfl) hm4 gc.cls (gc.na _ (by decide)) (by show 4 < 1000; decide) fun y H4' H5 e45 hgood e55 => ?_
    obtain ⟨rp, rs, rfl, hrp, hR, hrs, hprs⟩ := hgood
    have hR := hR.ex e55
    have e5 := e45.trans e55
    have hm5 := e5 _ _ hm4
    have F5 := (F4.trans (Fk.of e5)).trans (Fk.at (H := H5) (o := .ins CG dx (putF "rows" (.ref rp) (putF "choose" cho (putF "ahead" (.int sight) (putF "cards" cv (putF "web" (.ref m) [])))))) (S := fun b => b = s) rfl)
    have hm6 : upd H5 s (.ins CG dx (putF "rows" (.ref rp) (putF "choose" cho (putF "ahead" (.int sight) (putF "cards" cv (putF "web" (.ref m) [])))))) s = _ := upd_same
    have srp : rp ≠ s := fun z => by rw [z, hm4] at hrp; cases hrp
    have srs : ∀ r ∈ rs, r ≠ s := fun r hr z => by
      have := hrs r hr
      rw [z, hm4] at this
      cases this
    have hR6 := hR.fk2 (Fk.at (H := H5) (o := .ins CG dx (putF "rows" (.ref rp) (putF "choose" cho (putF "ahead" (.int sight) (putF "cards" cv (putF "web" (.ref m) [])))))) (S := fun b => b = s) rfl) srp srs
    generalize upd H5 s (.ins CG dx (putF "rows" (.ref rp) (putF "choose" cho (putF "ahead" (.int sight) (putF "cards" cv (putF "web" (.ref m) [])))))) = G6 at *
    refine s_fldD (ed_tup ead_nil (by decide)) (ev_var rfl) hm6 gc.cls (gc.na _ (by decide)) (by show 5 < 1000; decide) fun pv H7 e7 hpv => ?_
    have F7 := (F5.trans (Fk.of e7)).trans (Fk.at (H := H7) (o := .ins CG dx (putF "past" pv (putF "rows" (.ref rp) (putF "choose" cho (putF "ahead" (.int sight) (putF "cards" cv (putF "web" (.ref m) []))))))) (S := fun b => b = s) rfl)
    exact k rp rs pv _ F7 upd_same ((hR6.ex e7).fk2 (Fk.at (S := fun b => b = s) rfl) srp srs) (fun r hr => back (hrs r hr) (srs r hr)) (back hrp srp) hprs (hpv.tk ((Fk.at (S := fun b => b = s) rfl).tk (soft (e7 _ _ hm6))))
theorem ok_g_ready (F : Fun K "ready" "Guided.ready" s_Guided_ready fa fd) (B : Bl mg) (gc : GuiC K CG) (wc : WebC K C) : FnOk P w K mg base CX0 1 fa fd ["self", "number"] (spGReady C CG) := by
  refine F.ok sc_Guided_ready (fun vs H Q E h => ?_) (fun cdv A outer s H vs Q E hr h => ?_)
  · obtain ⟨s, m, dx, rp, rs, W, cs, cv, cho, pv, sight, rows, n, rfl, _⟩ := h
    rfl
  · obtain ⟨s, m, dx, rp, rs, W, cs, cv, cho, zv, sight, rows, n, rfl, hG, hR, fit, hn, k⟩ := h
    have hu64 := hr.units
    refine ⟨_, (pss_cons (ps_set (i := 2) sc_Guided_ready.nd rfl (.inl rfl) (pe_ix (kIx (K := K)) (k_fld (K := K) (pv 0)) (pv 1) (fun _ _ => rfl)))
    (pss_cons (ps_set (i := 3) sc_Guided_ready.nd rfl (.inl rfl) (pe_ix (kIx (K := K)) (pe_ix (kIx (K := K)) (k_fld (K := K) (pv 0)) (pv 1) (fun _ _ => rfl)) pe_int (fun _ _ => rfl)))
    (pss_cons (ps_if (pt_cmpR (kEq (K := K) hu64) (pe_callB (kLen (K := K)) (by rfl) B.len b_len (pa_cons (pv 2) pa_nil)) (pe_callB (kLen (K := K)) (by rfl) B.len b_len (pa_cons (pv 3) pa_nil)) (nomark _))
    (pss_one (ps_ret pe_non))
    pss_nil)
    (pss_one (ps_ret (pe_ifExp (pt_cmpR (kEq (K := K) hu64) (pe_callB (kLen (K := K)) (by rfl) B.len b_len (pa_cons (pv 2) pa_nil)) pe_int (nomark _)) (pe_ix (kIx (K := K)) (pe_ix (kIx (K := K)) (k_fld (K := K) (pv 0)) (pv 1) (fun _ _ => rfl)) pe_int (fun _ _ => rfl)) (pe_op (kAdd (K := K)) (pe_ix (kIx (K := K)) (pv 2) (pe_un oNeg pe_int) (fun _ _ => rfl)) (pe_ix (kIx (K := K)) (k_fld (K := K) (k_fld (K := K) (pv 0))) (pe_ix (kIx (K := K)) (pv 3) (pe_op oSub (pe_callB (kLen (K := K)) (by rfl) B.len b_len (pa_cons (pv 2) pa_nil)) pe_int) (fun _ _ => rfl)) (fun _ _ => rfl))))))))), ?_⟩
    have hn' : n < rows.length := by rw [fit.len, lets_len]; exact hn
    obtain ⟨r, hr1, hr2, hr3⟩ := hR.get hn'
    have hle := fit.le n (by rw [lets_len]; exact hn)
    rw [lets_get] at hle
    have hway : ∀ x ∈ (cs.getD n card0).way, x < W.times.length := fun x hx => fit.way ((cs.getD n card0).way, (cs.getD n card0).come) (List.mem_map.mpr ⟨_, getD_mem hn, rfl⟩) x hx
    refine q_asg (ev_ixL (hG.fRows gc (ev_var rfl)) hR.at_ (ev_var rfl) hr3) fun H1 e1 => ?_
    have hG1 := hG.ex e1
    refine q_asgD (ed_cway (hG1.card gc (ev_var rfl) (ev_var rfl) hn)) fun wv H2 e2 hwv => ?_
    have hG2 := hG1.ex e2
    have hr22 := (e1.trans e2) _ _ hr2
    show tSeq _ _ _ [some (V.ref s), some (V.int (n : Int)), some (V.ref r), some wv] _
    have hL : ∀ {H3}, Ex H2 H3 → ED (tVar 3) [some (V.ref s), some (V.int (n : Int)), some (V.ref r), some wv] H3 (dWay (cs.getD n card0).way) := fun {H3} e3 => ed_var rfl (hwv.ex e3)
    have hRw : ∀ {H3}, Ex H2 H3 → ES (tVar 2) [some (V.ref s), some (V.int (n : Int)), some (V.ref r), some wv] H3 ((rows.getD n []).map PyData.int) := fun {H3} e3 => es_ints (ev_var rfl) (e3 _ _ hr22)
    have e02 := e1.trans e2
    refine q_when (et_test (ev_eqI (ev_lenM (hRw (Ex.refl _))) (ev_lenM (hL (Ex.refl _)).es))) (fun hb H3 e3 => ?_) (fun hb H3 e3 => ?_)
    · refine s_ret ev_c fun H4 e4 => ?_
      have e : ready W ((cs.getD n card0).way, (cs.getD n card0).come) (rows.getD n []) = none := if_pos (by have := of_decide_eq_true hb; show (rows.getD n []).length = (cs.getD n card0).way.length; omega)
      have q := k H4 ((e02.trans e3).trans e4)
      rw [e] at q
      exact q
    · have hb2 : ¬ (rows.getD n []).length = (cs.getD n card0).way.length := by have := of_decide_eq_false hb; omega
      have e : ready W ((cs.getD n card0).way, (cs.getD n card0).come) (rows.getD n []) = some (if (rows.getD n []).length = 0 then (cs.getD n card0).come else (rows.getD n []).getLastD 0 + W.times.getD ((cs.getD n card0).way.getD ((rows.getD n []).length - 1) 0) 0) := if_neg hb2
      refine s_ret (v := .int (if (rows.getD n []).length = 0 then (cs.getD n card0).come else (rows.getD n []).getLastD 0 + W.times.getD ((cs.getD n card0).way.getD ((rows.getD n []).length - 1) 0) 0)) (ev_if (et_test (ev_eqI (ev_lenM (hRw e3)) ev_c)) (fun hz => ?_) (fun hz => ?_)) fun H4 e4 => ?_
      · rw [if_pos (by simpa using hz)]
        exact ev_ccome ((hG2.ex e3).card gc (ev_var rfl) (ev_var rfl) hn)
      · have hz2 : ¬ (rows.getD n []).length = 0 := by simpa using hz
        rw [if_neg hz2]
        have hle' : (rows.getD n []).length ≤ (cs.getD n card0).way.length := hle
        have h1 : (rows.getD n []).length - 1 < (cs.getD n card0).way.length := by omega
        have hi : Ev (tOp rSubI (tCB (rLenQ K) (tCons (tVar 2) tNil)) (tC (.int 1))) [some (V.ref s), some (V.int (n : Int)), some (V.ref r), some wv] H3 (.int (((rows.getD n []).length - 1 : Nat) : Int)) := ev_isI (ev_sub (ev_lenM (hRw e3)) ev_c) (by omega)
        refine ev_add ?_ (ev_num ((hG2.ex e3).made.times wc ((hG2.ex e3).fWeb gc (ev_var rfl))) (ev_road (hL e3) hi h1) (hway _ (getD_mem h1)))
        exact (ed_ix (hRw e3) (ev_neg ev_c) (ix_last (x := 0) (fun z => hz2 (by rw [z] <;> rfl)))).ev
      · have q := k H4 ((e02.trans e3).trans e4)
        rw [e] at q
        exact q
theorem ok_g_waits (F : Fun K "waits_at" "Guided.waits_at" s_Guided_waits_at fa fd) (B : Bl mg) (gc : GuiC K CG) (c_ready : CalM P w K mg base CG "ready" 1 ["self", "number"] (spGReady C CG)) : FnOk P w K mg base CX0 2 fa fd ["self", "tick"] (spGWaits C CG) := by
  refine F.ok sc_Guided_waits_at (fun vs H Q E h => ?_) (fun cdv A outer s H vs Q E hr h => ?_)
  · obtain ⟨s, m, dx, rp, rs, W, cs, cv, cho, zv, sight, rows, tick, rfl, _⟩ := h
    rfl
  · obtain ⟨s, m, dx, rp, rs, W, cs, cv, cho, zv, sight, rows, tick, rfl, hG, hR, fit, hz, k⟩ := h
    have hu64 := hr.units
    refine ⟨_, (pss_cons (ps_set (i := 2) sc_Guided_waits_at.nd rfl (.inl rfl) pe_dnewK)
    (pss_cons (ps_for PassesOwn.never rfl (pi_range1 (by rfl) B.range (pa_cons (pe_callB (kLen (K := K)) (by rfl) B.len b_len (pa_cons (k_fld (K := K) (pv 0)) pa_nil)) pa_nil)) (pg_name (i := 3) sc_Guided_waits_at.nd rfl (.inl rfl))
    (pss_cons (ps_set (i := 4) sc_Guided_waits_at.nd rfl (.inl rfl) (pe_methC c_ready (hr.mono (by decide)) (pv 0) (pa_cons (pv 3) pa_nil)))
      (pss_one (ps_if (PW.pt (pw_and (pt_cmpR oIsNot (pv 4) pe_non (nomark _)) (pw_and1 (pt_cmpR oLe (pv 4) (pv 1) (nomark _)))))
      (pss_one (ps_expr (pe_bm PySem.F.plainAttrs_list PySem.F.slot_list_append PySem.F.type_list_append mt_append (pe_dsetd (pv 2) (pe_ix (kIx (K := K)) (pe_ix (kIx (K := K)) (pe_ix (kIx (K := K)) (k_fld (K := K) (pv 0)) (pv 3) (fun _ _ => rfl)) pe_int (fun _ _ => rfl)) (pe_callB (kLen (K := K)) (by rfl) B.len b_len (pa_cons (pe_ix (kIx (K := K)) (k_fld (K := K) (pv 0)) (pv 3) (fun _ _ => rfl)) pa_nil)) (fun _ _ => rfl)) (pe_lst pa_nil) ⟨rfl, rfl, rfl, rfl⟩) (pa_cons (pv 3) pa_nil))))
      pss_nil))))
    (pss_one (ps_ret (pv 2))))), ?_⟩
    intro d hd
    have dw0 : DW H (upd H d (.dK [])) d [] (nums W (lets cs) rows tick 0) := ⟨hd, Ex.new hd, upd_same, List.nodup_nil, List.nodup_nil, fun e he => by simp at he, fun r h => absurd rfl h⟩
    show tSeq _ _ _ [some (V.ref s), some (V.int tick), some (V.ref d), none, none] _
    have hlR : rows.length = cs.length := by rw [fit.len, lets_len]
    have e1 : Ex H (upd H d (.dK [])) := Ex.new hd
    refine q_forR1 (n := (cs.length : Int)) (ea_cons (ev_isI (ev_lenL ((hG.ex e1).fRows gc (ev_var rfl)) (hR.ex e1).at_) (by rw [List.length_map, hR.len, hlR])) ea_nil) (by omega) (fun i σ' H' => ∃ es v3 v4, σ' = [some (V.ref s), some (V.int tick), some (V.ref d), v3, v4] ∧ DW H H' d es (nums W (lets cs) rows tick i) ∧ es.length ≤ i)
      (fun H1 e1 => ⟨[], none, none, rfl, dw0.mono e1, Nat.le_refl _⟩) (fun i σ' H1 hi p => ?_) (fun σ' H1 p => ?_)
    · obtain ⟨es, v3, v4, rfl, dw, hl⟩ := p
      have hi' : i < cs.length := by omega
      have hGi := hG.ex dw.ex
      have hRi := hR.ex dw.ex
      obtain ⟨r, hr1, hr2, hr3⟩ := hRi.get (i := i) (by rw [hlR]; exact hi')
      have hle := fit.le i (by rw [lets_len]; exact hi')
      rw [lets_get] at hle
      have hle : (rows.getD i []).length ≤ (cs.getD i card0).way.length := hle
      refine q_asg (v := vOpt (ready W ((cs.getD i card0).way, (cs.getD i card0).come) (rows.getD i []))) (fun H2 e2 Q q => ⟨_, rfl, s, dx, _, rfl, e2 _ _ hGi.self, rfl, _, rfl, s, m, dx, rp, rs, W, cs, cv, cho, zv, sight, rows, i, rfl, hGi.ex e2, hRi.ex e2, fit, hi', q⟩) fun H2 e2 => ?_
      · have dw2 := dw.mono e2
        have lg : (lets cs).getD i ([], 0) = ((cs.getD i card0).way, (cs.getD i card0).come) := lets_get cs i
        cases hrd : ready W ((cs.getD i card0).way, (cs.getD i card0).come) (rows.getD i []) with
        | none =>
          refine s_when (b := false) (et_and (a := false) (b := true) (et_test (ev_is (ev_notN (ev_var rfl)) rfl)) (fun z => by cases z)) (fun z => by cases z) fun _ H3 e3 => ?_
          refine ⟨es, _, _, rfl, ?_, by omega⟩
          rw [nums_no (by rw [lg]; unfold due; rw [hrd])]
          exact dw2.mono e3
        | some t =>
          refine s_when (b := decide (t ≤ tick)) (et_is (et_and (a := true) (b := decide (t ≤ tick)) (et_test (ev_is (ev_notN (ev_var rfl)) rfl)) (fun _ => et_test (ev_le (ev_var rfl) (ev_var rfl)))) (Bool.true_and _)) (fun ht H3 e3 => ?_) fun ht H3 e3 => ?_
          · have ht' : t ≤ tick := of_decide_eq_true ht
            have hlt : (rows.getD i []).length < (cs.getD i card0).way.length := ready_lt hrd hle
            have e13 := e2.trans e3
            have dw3 := dw.mono e13
            refine s_setdefApp (r := ((cs.getD i card0).way.getD (rows.getD i []).length 0 : Nat)) (n := i) (ev_var rfl) ?_ (fun H4 Q q => ⟨_, rfl, q⟩) dw3 (by omega) (Nat.le_trans (nums_len _ _ _ _ _ _) (by omega)) fun H4 es' dw4 hl4 => ?_
            · refine ev_road (ed_cway ((hGi.ex e13).card gc (ev_var rfl) (ev_var rfl) hi')) ?_ hlt
              have q := ev_lenM (K := K) (es_ints (ev_ixL (K := K) (ta := tFld K (tVar 0) "rows") (tb := tVar 3) (σ := [some (V.ref s), some (V.int tick), some (V.ref d), some (V.int (i : Int)), some (V.int t)]) ((hGi.ex e13).fRows gc (ev_var rfl)) (hR.ex dw3.ex).at_ (ev_var rfl) hr3) (e13 _ _ hr2))
              exact q
            · refine ⟨es', _, _, rfl, ?_, by omega⟩
              rw [nums_yes (r0 := (cs.getD i card0).way.getD (rows.getD i []).length 0) (by rw [lg]; exact due_eq _ _ _ _ _ hrd ht')]
              exact dw4
          · refine ⟨es, _, _, rfl, ?_, by omega⟩
            rw [nums_no (by rw [lg]; unfold due; rw [hrd]; exact if_neg (of_decide_eq_false ht))]
            exact dw2.mono e3
    · obtain ⟨es, v3, v4, rfl, dw, hl⟩ := p
      have en : ((cs.length : Int)).toNat = cs.length := Int.toNat_natCast _
      rw [en] at dw hl
      exact s_ret (ev_var rfl) fun H2 e2 => k d H2 es (dw.mono e2) hl
theorem ok_g_chosen (F : Fun K "chosen" "Guided.chosen" s_Guided_chosen fa fd) (B : Bl mg) (gc : GuiC K CG) (wc : WebC K C) (RN : Runs P w K mg base 4 RNot) (c_is_listed : Cal P w K mg base "is_listed" 1 ["thing"] spIsListed) (c_is_integer : Cal P w K mg base "is_integer" 1 ["thing"] spIsInt) :
    FnOk P w K mg base CX0 5 fa fd ["self", "road", "tick", "waits"] (spChosen C CG) := by
  refine F.ok sc_Guided_chosen (fun vs H Q E h => ?_) (fun cdv A outer s H vs Q E hr h => ?_)
  · obtain ⟨s, m, dx, rp, f, g, l, a, wl, N, L, o, cs, cv, zv, sight, q, ts, wvs, rfl, _⟩ := h
    rfl
  · obtain ⟨s, m, dx, rp, f, g, l, a, wl, N, L, o, cs, cv, zv, sight, q, ts, wvs, rfl, hG, hwl, hwx, hqs, hpast, hN, hlt, htl, qok, nd, wll, sl, ml, hcn, k⟩ := h
    have hu64 := hr.units
    have hr_clo := hr
    have wok : WebOk o.W := hN.str.2.2.2
    refine ⟨_, (pss_cons (ps_setLc (i := 4) (own := [("number", 6), ("card", 7)]) rfl sc_Guided_chosen.nd rfl rfl (sw_true rfl rfl rfl (by decide +kernel)) (k_ef (K := K) true (by rfl) B.enumerate (pa_cons (k_fld (K := K) (pv 0)) pa_nil)) (blkOk_by (N := N_Guided_chosen) (sc := defScope s_Guided_chosen) (by decide +kernel)) (fun _ _ _ _ _ => (k_tup (K := K) (n := 2) (by rfl) (pgs_cons (pg_name (i := 6) sc_Guided_chosen.nd rfl (.inl rfl)) (pgs_cons (pg_name (i := 7) sc_Guided_chosen.nd rfl (.inl rfl)) pgs_nil)))) (fun _ _ _ _ _ => (pts_one (pt_cmpR oLe (pe_ix (kIx (K := K)) (pv 7) pe_int (fun _ _ => rfl)) (pe_op (kAdd (K := K)) (pv 2) (k_fld (K := K) (pv 0))) (nomark _)))) (fun _ _ _ _ _ => (pe_tup (pa_cons (pv 6) (pa_cons (pv 7) pa_nil)))))
    (pss_cons (ps_set (i := 5) sc_Guided_chosen.nd rfl (.inl rfl) (k_cloF (K := K) RN hr_clo (pv 0) (pa_cons (pv 1) (pa_cons (pv 2) (pa_cons (pe_callTy (kTup (K := K)) (by rfl) B.tuple b_tuple (pa_cons (pv 3) pa_nil)) (pa_cons (pe_callTy (kTup (K := K)) (by rfl) B.tuple b_tuple (pa_cons (pv 4) pa_nil)) (pa_cons (k_fld (K := K) (pv 0)) pa_nil)))))))
    (pss_cons (ps_if (PW.pt (pw_or (pt_not (pt_val (pe_callC c_is_listed (hr.mono (by decide)) (by rfl) (pa_cons (pv 5) pa_nil)))) (pw_or1 (pt_cmpR oGt (pe_callB (kLen (K := K)) (by rfl) B.len b_len (pa_cons (pv 5) pa_nil)) (pe_ix (kIx (K := K)) (k_fld (K := K) (k_fld (K := K) (pv 0))) (pv 1) (fun _ _ => rfl)) (nomark _)))))
    (pss_one ps_never)
    pss_nil)
    (pss_cons (ps_if (PW.pt (pw_or (pt_not (pt_val (pe_callB (kAll (K := K)) (by rfl) B.all b_all (pa_cons (pe_lc (own := [("number", 6)]) rfl sc_Guided_chosen.nd (k_sq (K := K) (pv 5)) (blkOk_by (N := N_Guided_chosen) (sc := defScope s_Guided_chosen) (by decide +kernel)) (fun _ _ _ _ _ => (pg_name (i := 6) sc_Guided_chosen.nd rfl (.inl rfl))) (fun _ _ _ _ _ => pts_nil) (fun _ _ _ _ _ => (pe_and (pe_callC c_is_integer (hr.mono (by decide)) (by rfl) (pa_cons (pv 6) pa_nil)) (pe_one (pe_cmpR (kIn (K := K)) (pv 6) (pv 3) (by rfl)))))) pa_nil)))) (pw_or1 (pt_cmpR (kNe (K := K) hu64) (k_lenSet (K := K) (by rfl) B.len (by rfl) B.set (pv 5)) (pe_callB (kLen (K := K)) (by rfl) B.len b_len (pa_cons (pv 5) pa_nil)) (nomark _)))))
    (pss_one ps_never)
    pss_nil)
    (pss_one (ps_ret (pv 5))))))), ?_⟩
    -- seen
    refine q_asgLD (eld_enum (x0 := card0) dCard (fun n => decide ((cs.getD n card0).come ≤ q.tick + sight)) (fun n => dSeen1 (n, cs.getD n card0)) (hG.fCards gc (ev_var rfl)) (by omega) fun n v H1 hn e1 hv => ⟨rfl, et_test (ev_le (ev_ccome (ed_var rfl hv)) (ev_add (ev_var rfl) ((hG.ex e1).fAhead gc (ev_var rfl)))), ed_tup (ead_cons (edI (ev_var rfl)) (ead_cons (ed_var rfl hv) ead_nil)) (by show 2 ≤ 100000; decide)⟩) fun sp sxs H1 hsp e1 h1 hx1 => ?_
    have hseen : DtA H1 (q.seen.map dSeen1) sxs := by
      rw [hqs]
      unfold seenAt
      rw [List.map_map]
      exact hx1
    have hG1 := hG.ex e1
    -- told
    have core : ∀ Qs : VK, (∀ (kk : Bool) (b t : Addr) (ys : List V) (H2 : Hp), Fr1 l H H2 → H2 l = some (.lst (ts ++ [.ref t])) → Dt H2 (dAsked q) (.ref t) → Sq0 kk H2 b ys → DtA H2 ((picks o.kind o.salt o.W q).map iN) ys → Qs (.ref b) H2) →
        tCloF K RNot "choose" (tVar 0) (tCons (tVar 1) (tCons (tVar 2) (tCons (tCB (rTupQ K) (tCons (tVar 3) tNil)) (tCons (tCB (rTupQ K) (tCons (tVar 4) tNil)) (tCons (tFld K (tVar 0) "past") tNil))))) [some (V.ref s), some (V.int (q.road : Int)), some (V.int q.tick), some (V.ref wl), some (V.ref sp), none, none, none] H1 Qs := by
      intro Qs hQ
      refine ⟨.ref s, rfl, s, CG, dx, _, f, rfl, hG1.self, gc.cls, gc.na _ (by decide), rfl, ⟨N, ?_⟩, ?_⟩
      · exact e1 _ _ hN.clo.fn
      refine (eap_v (ev_var rfl) (eap_v (ev_var rfl) (eap_d (d := dWay q.waiting) (ed_tupleOf (es_list (ev_var rfl) (e1 _ _ hwl) (hwx.ex e1))) (eap_frz (ds := q.seen.map dSeen1) (es_list (ev_var rfl) h1 hseen) (fun H2 e2 Q q => ⟨_, rfl, q sp sxs H2 (Ex.refl _) (e2 _ _ h1) (hseen.ex e2)⟩) (eap_v (hG1.fPast gc (ev_var rfl)) eap_nil))))) H1 (Ex.refl _) _ fun ws H2 e2 hw => ?_
      obtain ⟨_, rfl, _, rfl, wv, _, rfl, hwv, x, ys, _, rfl, hpl, hys, _, rfl, rfl⟩ := hw
      have e12 := e1.trans e2
      have ask2 : AskAt H2 q wv x zv := ⟨hwv, ⟨ys, hpl, hys⟩, hpast.ex e12⟩
      refine ⟨g, l, a, N, L, o, q, wv, x, zv, ts, (Fk.notAt (S := fun _ => False) (Fk.of e12) (fun _ _ z => z.elim) (fun z => z) hN), rfl, e12 _ _ hlt, htl, qok, ask2, fun kk b t ys' H3 f3 hl3 ht3 hb hx3 => ?_⟩
      exact hQ kk b t ys' H3 ((Fr1.of e12).trans f3) hl3 (asked_dt ht3 (f3.ask (e12 _ _ hlt) ask2)) hb hx3
    refine core _ fun kk b t ys H2 f2 hl2 ht2 hb hx2 => ?_
    show tSeq _ _ _ [some (V.ref s), some (V.int (q.road : Int)), some (V.int q.tick), some (V.ref wl), some (V.ref sp), some (V.ref b), none, none] _
    have so : So (fun b => b = l) H := fun b u z p => by
      subst z
      rw [hlt] at p
      cases p
      exact .inl ⟨_, rfl⟩
    have f2' : Fk (fun b => b = l) H H2 := f2
    have hG2 : GAt H2 C CG s m dx o.W cs cv sight (.ref f) rp zv := ⟨f2 _ _ sl hG.self, hG.made.fk f2' so ml, hG.cards.tk (f2'.tk so)⟩
    have hwl2 : H2 wl = some (.lst wvs) := f2 _ _ wll hwl
    have hwx2 := hwx.tk (f2'.tk so)
    have hres : SqD H2 (.ref b) ((picks o.kind o.salt o.W q).map iN) := ⟨kk, b, ys, rfl, hb, hx2⟩
    have h3 := wok.rooms _ (getD_mem (x := 0) (i := q.road) (by rw [wok.lm]; exact qok.road))
    have h4 := pick_len (kind := o.kind) (salt := o.salt) (W := o.W) (road := q.road) (tick := q.tick) (waiting := q.waiting) (seen := q.seen) (past := q.past) (by omega)
    have h4 : ((picks o.kind o.salt o.W q).length : Int) ≤ o.W.rooms.getD q.road 0 := h4
    have hlen : (picks o.kind o.salt o.W q).length ≤ 3 := by omega
    refine q_when (b := false) (et_is (et_or (a := false) (b := false) (et_not (a := true) (et_B (ev_callP (eap_v (ev_var rfl) eap_nil) fun vs H3 e3 hp Q qq => ?_))) fun _ => et_is (et_test (ev_gt (ev_lenM (f := iN) (hres.es (ev_var rfl))) (ev_num (hG2.made.rooms wc (hG2.fWeb gc (ev_var rfl))) (ev_var rfl) (by rw [wok.lm]; exact qok.road)))) (decide_eq_false (by omega))) rfl) (fun z => by cases z) fun _ H3 e3 => ?_
    · obtain ⟨_, rfl, rfl⟩ := hp
      exact ⟨_, _, rfl, hres.ex e3, qq⟩
    have hres3 := hres.ex e3
    refine q_when (b := false) (et_is (et_or (a := false) (b := false) (et_not (a := true) (et_B (ev_is (ev_allMap (l := picks o.kind o.salt o.W q) (f := fun _ => true) (eld_bools (picks o.kind o.salt o.W q) iN (fun _ => true) (hres3.es (ev_var rfl)) mono_name (by omega) fun n y H4 hn e4 hd => ?_)) (by simp)))) fun _ => et_is (et_test (ev_neI (ev_lenSet (ns := picks o.kind o.salt o.W q) (hres3.es (ev_var rfl)) (pick_nodup nd) (by omega)) (ev_lenM (f := iN) (hres3.es (ev_var rfl))))) (by rw [decide_eq_true rfl] <;> rfl)) rfl) (fun z => by cases z) fun _ H4 e4 => ?_
    · cases (hd : y = .int (n : Int))
      refine ⟨Ex.refl _, rfl, fun _ _ _ q => q _ (Ex.refl _), ev_is (ev_andV (a := true) (b := true) (ev_callInt (ev_var rfl)) fun _ => ev_is (ev_inN (ns := q.waiting) (ev_var rfl) (es_list (ev_var rfl) ((e3.trans e4) _ _ hwl2) (hwx2.ex (e3.trans e4)))) (by rw [decide_eq_true (pick_mem hn)])) rfl⟩
    · refine s_ret (ev_var rfl) fun H5 e5 => ?_
      have e25 := (e3.trans e4).trans e5
      exact k kk b t ys H5 (f2.trans (Fr1.of e25)) (e25 _ _ hl2) (ht2.ex e25) (hb.ex e25) (hx2.ex e25)
end
end Z
/-! Pf: Guided.go. -/
namespace Z
open PySem PySem.Spec PyProof.Rows L2 Evl

structure GCore (H0 : Hp) (C : Addr) (f g l a s m : Addr) (N L : LF) (o : Who) (cs : List Card) (cv cho : V) (rs : List Addr) (H : Hp) : Prop where
  nt : cs ≠ [] → cho = .ref f ∧ NotAt H f g l a N L o
  made : MadeAt H C m o.W
  cards : Dt H (dCards cs) cv
  fr : Fk (fun b => b = l ∨ b = s ∨ b ∈ rs) H0 H
theorem GCore.fk {S : Addr → Prop} {H0 H H' : Hp} {C f g l a s m : Addr} {N L : LF} {o : Who} {cs : List Card} {cv cho : V} {rs : List Addr} (h : GCore H0 C f g l a s m N L o cs cv cho rs H) (k : Fk S H H') (so : So S H)
    (n : ∀ b, S b → b ≠ m ∧ (cs ≠ [] → b ≠ a) ∧ ((b = l ∨ b = s ∨ b ∈ rs) ∨ H0 b = none)) : GCore H0 C f g l a s m N L o cs cv cho rs H' := by
  refine ⟨fun hc => ⟨(h.nt hc).1, k.notAt so (fun z => (n a z).2.1 hc rfl) (h.nt hc).2⟩, h.made.fk k so (fun z => (n m z).1 rfl), h.cards.tk (k.tk so), fun b u hb hu => ?_⟩
  refine k b u (fun z => ?_) (h.fr b u hb hu)
  rcases (n b z).2.2 with q | q
  · exact hb q
  · rw [q] at hu
    cases hu
theorem GCore.ex {H0 H H' : Hp} {C f g l a s m : Addr} {N L : LF} {o : Who} {cs : List Card} {cv cho : V} {rs : List Addr} (h : GCore H0 C f g l a s m N L o cs cv cho rs H) (e : Ex H H') : GCore H0 C f g l a s m N L o cs cv cho rs H' :=
  h.fk (S := fun _ => False) (Fk.of e) (fun _ _ z => z.elim) fun _ z => z.elim
/-- all that the play knows behind tick t -/
structure GState (H : Hp) (C CG s m dx rp l f g a : Addr) (rs : List Addr) (N L : LF) (o : Who) (cs : List Card) (cv cho pv : V) (sight : Int) (t : Nat) (pre : List PyData) (ts : List V) : Prop where
  self : H s = some (.ins CG dx (fsG m cv sight cho rp pv))
  made : MadeAt H C m o.W
  cards : Dt H (dCards cs) cv
  nt : cs ≠ [] → cho = .ref f ∧ NotAt H f g l a N L o
  rows : RowsAt H rp rs (gAt o cs sight t).rows
  past : Dt H (dPast (gAt o cs sight t).past) pv
  notes : H l = some (.lst ts)
  asks : DtA H (pre ++ (asksTo o cs sight t).map dAsked) ts
  pl : pre.length ≤ 1000
structure GApart (cs : List Card) (s m rp l a : Addr) (rs : List Addr) : Prop where
  ms : m ≠ s
  rpl : rp ≠ l
  rprs : rp ∉ rs
  lrs : l ∉ rs
  ars : cs ≠ [] → a ∉ rs
def spGo (C CG : Addr) : Sp := fun vs H Q _ => ∃ (s m dx rp l f g a : Addr) (rs : List Addr) (N L : LF) (o : Who) (cs : List Card) (cv cho pv : V) (sight : Int) (t : Nat) (pre : List PyData) (ts : List V), vs = [.ref s, .int ((t + 1 : Nat) : Int)] ∧ GState H C CG s m dx rp l f g a rs N L o cs cv cho pv sight t pre ts ∧ GApart cs s m rp l a rs ∧ CsOk o.W cs ∧ WebOk o.W ∧ 0 ≤ sight ∧ t ≤ 440 ∧
  ∀ pv' ts' H', Fk (fun b => b = l ∨ b = s ∨ b ∈ rs) H H' → GState H' C CG s m dx rp l f g a rs N L o cs cv cho pv' sight (t + 1) pre ts' → Q .non H'
section
variable {K : PySem.W.Frag} {σ : L2.St} {H : Hp} {ta tb : TE} {tr : TA} {P : List V → Hp → Prop}
/-- d[r] as an argument, d a dict of rows -/
theorem eap_dr {d : Addr} {es : List (Int × Addr)} {nums : Int → List Nat} {r : Int} (h : DR H d es nums) (hv : Ev ta σ H (.ref d)) (hr : Ev tb σ H (.int r)) (hn : nums r ≠ []) (ht : EAP tr σ H P) :
    EAP (tCons (tDGet ta tb) tr) σ H fun vs H' => ∃ e xs, vs = .ref e :: xs ∧ (r, e) ∈ es ∧ P xs H' := fun H1 e1 Q q =>
  hv H1 e1 _ fun H2 e2 => hr H2 (e1.trans e2) _ fun H3 e3 => by
    obtain ⟨e, he, rfl⟩ := List.mem_map.mp (h.has r hn)
    have e03 := (e1.trans e2).trans e3
    refine ⟨d, .ref e.2, rfl, .inl ⟨es.map encE, .inl e.1, .inl (e03 _ _ h.at_), rfl, (val_of h.nk (show (e.1, e.2) ∈ es from he)).symm⟩, ?_⟩
    exact ht H3 e03 _ fun xs H4 e4 p => q _ H4 ((e2.trans e3).trans e4) ⟨e.2, xs, rfl, he, p⟩
end
abbrev s_Guided_go : Stmt := inClass (top 33) 4
abbrev N_Guided_go : List Str := ["self", "tick", "waits", "passed", "road", "when", "number"]
theorem sc_Guided_go : FnScope N_Guided_go ["self", "tick"] (defScope s_Guided_go) := ⟨rfl, rfl, rfl, by decide +kernel, rfl, by decide +kernel, by decide +kernel⟩
section
variable {P : Program} {w : World} {K : PySem.W.Frag} {mg : Str → Option Value} {base : Heap} {fa : Addr} {fd : FuncData} {C CG : Addr}
theorem ok_g_go (F : Fun K "go" "Guided.go" s_Guided_go fa fd) (B : Bl mg) (gc : GuiC K CG) (c_waits_at : CalM P w K mg base CG "waits_at" 2 ["self", "tick"] (spGWaits C CG)) (c_chosen : CalM P w K mg base CG "chosen" 5 ["self", "road", "tick", "waits"] (spChosen C CG)) :
    FnOk P w K mg base CX0 6 fa fd ["self", "tick"] (spGo C CG) := by
  refine F.ok sc_Guided_go (fun vs H Q E h => ?_) (fun cdv A outer s H vs Q E hr h => ?_)
  · obtain ⟨s, m, dx, rp, l, f, g, a, rs, N, L, o, cs, cv, cho, zv, sight, t, pre, ts, rfl, _⟩ := h
    rfl
  · obtain ⟨s, m, dx, rp, l, f, g, a, rs, N, L, o, cs, cv, cho, zv, sight, t, pre, ts, rfl, G, ap, cok, wok, hsi, t440, k⟩ := h
    have hu64 := hr.units
    have hu := hu_of hr
    refine ⟨_, (pss_cons (ps_set (i := 2) sc_Guided_go.nd rfl (.inl rfl) (pe_methC c_waits_at (hr.mono (by decide)) (pv 0) (pa_cons (pv 1) pa_nil)))
    (pss_cons (ps_set (i := 3) sc_Guided_go.nd rfl (.inl rfl) (pe_lst pa_nil))
    (pss_cons (ps_for PassesOwn.never rfl (k_sq (K := K) (pe_callB (kSortD (K := K) hu64) (by rfl) B.sorted b_sorted (pa_cons (pe_callTy (kLst (K := K)) (by rfl) B.list b_list (pa_cons (pv 2) pa_nil)) pa_nil))) (pg_name (i := 4) sc_Guided_go.nd rfl (.inr rfl))
    (pss_one (ps_expr (pe_bm PySem.F.plainAttrs_list PySem.F.slot_list_extend PySem.F.type_list_extend mt_extend (pv 3) (pa_cons (pe_lc (own := [("number", 6)]) rfl sc_Guided_go.nd (k_sq (K := K) (pe_methC c_chosen (hr.mono (by decide)) (pv 0) (pa_cons (pv 4) (pa_cons (pv 1) (pa_cons (pe_dget hu (pv 2) (pv 4) (fun _ _ => rfl)) pa_nil))))) (blkOk_by (N := N_Guided_go) (sc := defScope s_Guided_go) (by decide +kernel)) (fun _ _ _ _ _ => (pg_name (i := 6) sc_Guided_go.nd rfl (.inl rfl))) (fun _ _ _ _ _ => pts_nil) (fun _ _ _ _ _ => (pe_tup (pa_cons (pv 1) (pa_cons (pv 4) (pa_cons (pv 6) pa_nil)))))) pa_nil)))))
    (pss_cons (ps_for PassesOwn.never rfl (k_sq (K := K) (pv 3)) (k_tup (K := K) (n := 3) (by rfl) (pgs_cons (pg_name (i := 5) sc_Guided_go.nd rfl (.inl rfl)) (pgs_cons (pg_name (i := 4) sc_Guided_go.nd rfl (.inr rfl)) (pgs_cons (pg_name (i := 6) sc_Guided_go.nd rfl (.inl rfl)) pgs_nil))))
    (pss_one (ps_expr (pe_bm PySem.F.plainAttrs_list PySem.F.slot_list_append PySem.F.type_list_append mt_append (pe_ix (kIx (K := K)) (k_fld (K := K) (pv 0)) (pv 6) (fun _ _ => rfl)) (pa_cons (pv 1) pa_nil)))))
    (pss_one (ps_fld (pv 0) (pe_op (kAdd (K := K)) (k_fld (K := K) (pv 0)) (pe_callTy (kTup (K := K)) (by rfl) B.tuple b_tuple (pa_cons (pe_callB (kSortD (K := K) hu64) (by rfl) B.sorted b_sorted (pa_cons (pv 3) pa_nil)) pa_nil))) rfl)))))), ?_⟩
    have G0 := gAt_ok o cs sight wok t
    have alen := asks_len (o := o) (cs := cs) (sight := sight) wok t
    have tlen := G.asks.len
    rw [List.length_append, List.length_map] at tlen
    have prl := G.pl
    have sl : s ≠ l := fun z => by have := G.self; rw [z, G.notes] at this; cases this
    have ml : m ≠ l := fun z => by
      obtain ⟨dx, vr, vm, vt, vn, vl, q, _⟩ := G.made
      rw [z, G.notes] at q
      cases q
    have srs : s ∉ rs := fun z => by
      obtain ⟨xs, q⟩ := G.rows.mem z
      rw [G.self] at q
      cases q
    have mrs : m ∉ rs := fun z => by
      obtain ⟨xs, q⟩ := G.rows.mem z
      obtain ⟨dx, vr, vm, vt, vn, vl, q2, _⟩ := G.made
      rw [q2] at q
      cases q
    have srp : s ≠ rp := fun z => by have := G.self; rw [z, G.rows.at_] at this; cases this
    have aw : cs ≠ [] → ∃ xs, H a = some (.lst xs) := fun hc => by
      obtain ⟨xs, q, _⟩ := (G.nt hc).2.str.2.2.1
      exact ⟨xs, q⟩
    have as_ : cs ≠ [] → s ≠ a := fun hc z => by
      obtain ⟨xs, q⟩ := aw hc
      rw [← z, G.self] at q
      cases q
    have co0 : GCore H C f g l a s m N L o cs cv cho rs H := ⟨G.nt, G.made, G.cards, Fk.refl⟩
    -- waits
    refine ⟨.ref s, rfl, s, dx, _, rfl, G.self, rfl, _, rfl, s, m, dx, rp, rs, o.W, cs, cv, cho, zv, sight, (gAt o cs sight t).rows, ((t + 1 : Nat) : Int), rfl, ⟨G.self, G.made, G.cards⟩, G.rows, G0.fit wok cok, cok.n, fun d H1 es dw hel => ?_⟩
    have e1 := dw.ex
    have dr : DR H1 d es (numsAt o.W cs (gAt o cs sight t) ((t + 1 : Nat) : Int)) := dw.dr
    have esl : ∀ e ∈ es, e.2 ≠ l := fun e he z => by
      have := (dw.all e he).1
      rw [z, G.notes] at this
      cases this
    have hs1 := e1 _ _ G.self
    have hlt1 := e1 _ _ G.notes
    have hts1 := G.asks.ex e1
    have hR1 := G.rows.ex e1
    have hp1 := G.past.ex e1
    have co1 := co0.ex e1
    clear dw
    show tSeq _ _ _ [some (V.ref s), some (V.int ((t + 1 : Nat) : Int)), some (V.ref d), none, none, none, none] _
    refine q_asgLD (eld_lst ead_nil (by decide)) fun pp _ H2 hpp e2 h2 hx2 => ?_
    cases (hx2 : _ = [])
    have ppf : ∀ {b u}, H1 b = some u → pp ≠ b := fun {b u} z q => by
      rw [q, z] at hpp
      cases hpp
    have ppl : pp ≠ l := ppf hlt1
    have pps : pp ≠ s := ppf hs1
    have pprp : pp ≠ rp := ppf hR1.at_
    have pprs : pp ∉ rs := fun z => by
      obtain ⟨xs, q⟩ := hR1.mem z
      exact ppf q rfl
    have ppm : pp ≠ m := fun z => by
      obtain ⟨dx, vr, vm, vt, vn, vl, q2, _⟩ := co1.made
      exact ppf q2 z
    have ppa : cs ≠ [] → pp ≠ a := fun hc z => by
      obtain ⟨xs, q⟩ := aw hc
      exact ppf (e1 _ _ q) z
    have ppes : ∀ e ∈ es, e.2 ≠ pp := fun e he z => ppf (dr.all e he).1 z.symm
    have pp0 : H pp = none := fresh_back e1 hpp
    have co := co1.ex e2
    have hself := e2 _ _ hs1
    have hlt := e2 _ _ hlt1
    have hts := hts1.ex e2
    have hR := hR1.ex e2
    have hpast := hp1.ex e2
    have dr := dr.ex e2
    clear hs1 hlt1 hts1 hR1 hp1 co1 ppf e2
    show tSeq _ _ _ [some (V.ref s), some (V.int ((t + 1 : Nat) : Int)), some (V.ref d), some (V.ref pp), none, none, none] _
    have hrs2 := roads_sorted dr G0 cok
    have wne : ∀ r, r ∈ roadsAt o.W cs (gAt o cs sight t) ((t + 1 : Nat) : Int) → numsAt o.W cs (gAt o cs sight t) ((t + 1 : Nat) : Int) (r : Int) ≠ [] := fun r hr => by
      have := (List.mem_filter.mp hr).2
      simpa using this
    have cne : ∀ r, r ∈ roadsAt o.W cs (gAt o cs sight t) ((t + 1 : Nat) : Int) → cs ≠ [] := fun r hr z => by
      refine wne r hr ?_
      rw [z]
      rfl
    have rlen := roads_len o.W cs (gAt o cs sight t) ((t + 1 : Nat) : Int)
    have r7 := wok.r7
    refine q_forLD (ds := ((roadsAt o.W cs (gAt o cs sight t) ((t + 1 : Nat) : Int)).map fun r : Nat => (r : Int)).map PyData.int) (ELD.is (eld_sorted (enc := PyData.int) (eld_keys dr (ev_var rfl)) al_ints so_ints fun i _ => de_int i) (congrArg (List.map PyData.int) hrs2))
      (fun p xs j σ' H' => ∃ o4 o5 o6 ps ts', σ' = [some (V.ref s), some (V.int ((t + 1 : Nat) : Int)), some (V.ref d), some (V.ref pp), o4, o5, o6] ∧
        GCore H C f g l a s m N L o cs cv cho rs H' ∧ H' s = some (.ins CG dx (fsG m cv sight cho rp zv)) ∧ RowsAt H' rp rs (gAt o cs sight t).rows ∧ Dt H' (dPast (gAt o cs sight t).past) zv ∧ H' l = some (.lst ts') ∧ DtA H' (pre ++ (asksTo o cs sight t ++ ((roadsAt o.W cs (gAt o cs sight t) ((t + 1 : Nat) : Int)).take j).map (askAt o.W cs sight ((t + 1 : Nat) : Int) (gAt o cs sight t))).map dAsked) ts' ∧
        DR H' d es (numsAt o.W cs (gAt o cs sight t) ((t + 1 : Nat) : Int)) ∧ H' pp = some (.lst ps) ∧
        DtA H' ((((roadsAt o.W cs (gAt o cs sight t) ((t + 1 : Nat) : Int)).take j).flatMap (passOf o cs sight ((t + 1 : Nat) : Int) (gAt o cs sight t))).map dPass) ps ∧ H' p = some (.lst xs) ∧ DtA H' (((roadsAt o.W cs (gAt o cs sight t) ((t + 1 : Nat) : Int)).map fun r : Nat => (r : Int)).map PyData.int) xs ∧ p ≠ l ∧ p ≠ pp)
      (fun p xs H3 hp0 e3 hp1 hx3 => ⟨none, none, none, [], ts, rfl, co.ex e3, e3 _ _ hself, hR.ex e3, hpast.ex e3, e3 _ _ hlt, by
        rw [List.take_zero, List.map_nil, List.append_nil]
        exact hts.ex e3, dr.ex e3, e3 _ _ h2, rfl, hp1, hx3, (fun z => by rw [z, hlt] at hp0; cases hp0), (fun z => by rw [z, h2] at hp0; cases hp0)⟩)
      (fun p xs j σ' H' _ ⟨_, _, _, ps, ts', _, _, _, _, _, _, _, _, _, _, q1, q2, _⟩ => ⟨q1, q2⟩) (fun p xs j dd v σ' H10 hdj hdv q => ?_) fun p xs σ' H10 q => ?_
    · obtain ⟨o4, o5, o6, ps, ts', rfl, co, hself, hR, hpast, hlt, hts, dr, hpp, hps, hp1, hx10, npl, npp⟩ := q
      rw [List.getElem?_map, List.getElem?_map] at hdj
      cases hrj : (roadsAt o.W cs (gAt o cs sight t) ((t + 1 : Nat) : Int))[j]? with
      | none => rw [hrj] at hdj; cases hdj
      | some r =>
        rw [hrj] at hdj
        cases hdj
        have hdv : v = .int (r : Int) := hdv
        subst hdv
        have hrm := List.mem_of_getElem? hrj
        have hrlt := roads_mem hrm
        have hcne := cne r hrm
        obtain ⟨rfl, nt⟩ := co.nt hcne
        have tl2 := hts.len
        have pl2 := hps.len
        rw [List.length_map] at pl2
        rw [List.length_append, List.length_map, List.length_append, List.length_map] at tl2
        have tk1 := List.length_take_le j (roadsAt o.W cs (gAt o cs sight t) ((t + 1 : Nat) : Int))
        have tk2 := List.length_take_le' j (roadsAt o.W cs (gAt o cs sight t) ((t + 1 : Nat) : Int))
        have pk := pass_key (cs := cs) (sight := sight) (tick := ((t + 1 : Nat) : Int)) (g := gAt o cs sight t) wok ((roadsAt o.W cs (gAt o cs sight t) ((t + 1 : Nat) : Int)).take j) fun r hr => roads_mem (List.mem_of_mem_take hr)
        have hplen : (picks o.kind o.salt o.W (askAt o.W cs sight ((t + 1 : Nat) : Int) (gAt o cs sight t) r)).length ≤ 3 := by
          have h3 := wok.rooms _ (getD_mem (x := 0) (i := r) (by rw [wok.lm]; exact hrlt))
          have h4 := pick_len (kind := o.kind) (salt := o.salt) (W := o.W) (road := r) (tick := ((t + 1 : Nat) : Int)) (waiting := numsAt o.W cs (gAt o cs sight t) ((t + 1 : Nat) : Int) r) (seen := seenAt cs (((t + 1 : Nat) : Int) + sight)) (past := (gAt o cs sight t).past) (by omega)
          unfold picks askAt
          dsimp only
          omega
        show tDrop _ _ [some (V.ref s), some (V.int ((t + 1 : Nat) : Int)), some (V.ref d), some (V.ref pp), some (V.int (r : Int)), o5, o6] _
        refine s_extSrc (Good := fun b H12 => ∃ kk ys t' H11, Ex H10 H11 ∧ Fr1 l H11 H12 ∧ H12 l = some (.lst (ts' ++ [.ref t'])) ∧ Dt H12 (dAsked (askAt o.W cs sight ((t + 1 : Nat) : Int) (gAt o cs sight t) r)) (.ref t') ∧
            Sq0 kk H12 b ys ∧ DtA H12 ((picks o.kind o.salt o.W (askAt o.W cs sight ((t + 1 : Nat) : Int) (gAt o cs sight t) r)).map iN) ys) hpp rfl (fun Qs hQ => ?_) (fun b H12 hgood => ?_) (fun b H12 p2 vs2 H13 hgood hp2 e13 h13 hx13 => ?_) (ds := ((picks o.kind o.salt o.W (askAt o.W cs sight ((t + 1 : Nat) : Int) (gAt o cs sight t) r)).map fun n => dPass (((t + 1 : Nat) : Int), r, n)))
        · refine ⟨.ref s, rfl, s, dx, _, rfl, hself, rfl, ?_⟩
          refine (eap_v (ev_var rfl) (eap_v (ev_var rfl) (eap_dr dr (ev_var rfl) (ev_var rfl) (wne r hrm) eap_nil))) H10 (Ex.refl _) _ fun ws H11 e11 hw => ?_
          obtain ⟨_, rfl, _, rfl, wl, _, rfl, hwe, rfl⟩ := hw
          have co11 := co.ex e11
          exact ⟨s, m, dx, rp, f, g, l, a, wl, N, L, o, cs, cv, zv, sight, askAt o.W cs sight ((t + 1 : Nat) : Int) (gAt o cs sight t) r, ts', _, rfl, ⟨e11 _ _ hself, co11.made, co11.cards⟩, e11 _ _ (dr.all _ hwe).1, dt_map (f := iN) (g := vNat) (fun _ _ => rfl), rfl, hpast.ex e11, (co11.nt hcne).2, e11 _ _ hlt, by omega, ask_ok G0 cok hsi t440 hrlt, nums_nodup _ _ _ _ _, esl _ hwe, sl, ml, cok.n, fun kk b t' ys H12 f12 hl12 ht12 hb hx12 => hQ b H12 ⟨kk, ys, t', H11, e11, f12, hl12, ht12, hb, hx12⟩⟩
        · obtain ⟨kk, ys, t', H11, e11, f12, hl12, ht12, hb, hx12⟩ := hgood
          exact eld_all (picks o.kind o.salt o.W (askAt o.W cs sight ((t + 1 : Nat) : Int) (gAt o cs sight t) r)) iN (fun n => dPass (((t + 1 : Nat) : Int), r, n)) (SqD.es ⟨kk, b, ys, rfl, hb, hx12⟩ ev_c) mono_name (by omega) fun n v H' hn e hd => ⟨Ex.refl _, rfl, fun _ _ _ q => q _ (Ex.refl _), ed_tup (ead_cons (edI (ev_var rfl)) (ead_cons (edI (ev_var rfl)) (ead_cons (ed_var rfl hd) ead_nil))) (by show 3 ≤ 100000; decide)⟩
        obtain ⟨kk, ys, t', H11, e11, f12, hl12, ht12, hb, hx12⟩ := hgood
        have lpp : l ≠ pp := fun z => ppl z.symm
        have f1112 : Fk (fun b => b = l ∨ b = pp) H11 H12 := fun b o n q => f12 b o (fun z => n (.inl z)) q
        have hpp13 : H13 pp = some (.lst ps) := e13 _ _ (f12 _ _ ppl (e11 _ _ hpp))
        have vl := hx13.len
        rw [List.length_map] at vl
        refine ⟨hpp13, by omega, ?_⟩
        have F1 : Fk (fun b => b = l ∨ b = pp) H11 (upd H13 pp (.lst (ps ++ vs2))) := (f1112.trans (Fk.of e13)).trans (Fk.at (.inr rfl))
        have so11 : So (fun b => b = l ∨ b = pp) H11 := fun b u z q => by
          rcases z with rfl | rfl
          · rw [e11 _ _ hlt] at q
            cases q
            exact .inl ⟨_, rfl⟩
          · rw [e11 _ _ hpp] at q
            cases q
            exact .inl ⟨_, rfl⟩
        have tkm : Tk H13 (upd H13 pp (.lst (ps ++ vs2))) := Tk.mut hpp13
        have hl14 : upd H13 pp (.lst (ps ++ vs2)) l = some (.lst (ts' ++ [.ref t'])) := by rw [upd_ne lpp]; exact e13 _ _ hl12
        refine ⟨some (V.int (r : Int)), o5, o6, ps ++ vs2, ts' ++ [.ref t'], rfl, (co.ex e11).fk F1 so11 fun b z => ?_, F1 _ _ (fun z => z.elim (fun q => sl q) fun q => pps q.symm) (e11 _ _ hself), (hR.ex e11).fk2 F1 ?_ ?_, (hpast.ex e11).tk (F1.tk so11), hl14, ?_, (dr.ex e11).fk F1 so11 fun e he z => ?_, upd_same, ?_, F1 _ _ (fun z => ?_) (e11 _ _ hp1), (hx10.ex e11).tk (F1.tk so11), npl, npp⟩
        · rcases z with rfl | rfl
          · exact ⟨fun q => ml q.symm, fun hc => (co.nt hc).2.al.symm, .inl (.inl rfl)⟩
          · exact ⟨ppm, ppa, .inr pp0⟩
        · exact fun z => z.elim (fun q => ap.rpl q) fun q => pprp q.symm
        · exact fun r' hr' z => z.elim (fun q => ap.lrs (q ▸ hr')) fun q => pprs (q ▸ hr')
        · have e : asksTo o cs sight t ++ ((roadsAt o.W cs (gAt o cs sight t) ((t + 1 : Nat) : Int)).take (j + 1)).map (askAt o.W cs sight ((t + 1 : Nat) : Int) (gAt o cs sight t)) = (asksTo o cs sight t ++ ((roadsAt o.W cs (gAt o cs sight t) ((t + 1 : Nat) : Int)).take j).map (askAt o.W cs sight ((t + 1 : Nat) : Int) (gAt o cs sight t))) ++ [askAt o.W cs sight ((t + 1 : Nat) : Int) (gAt o cs sight t) r] := by
            rw [take_snoc hrj, List.map_append, List.append_assoc] <;> rfl
          rw [e, List.map_append, ← List.append_assoc]
          exact ((hts.ex e11).tk (F1.tk so11)).snoc ((ht12.ex e13).tk tkm)
        · exact z.elim (fun q => esl e he q) fun q => ppes e he q
        · rw [take_snoc hrj, List.flatMap_append, List.flatMap_singleton, List.map_append]
          refine ((hps.ex e11).tk (F1.tk so11)).app ?_
          unfold passOf
          rw [List.map_map]
          exact hx13.tk tkm
        · exact z.elim (fun q => npl q) fun q => npp q
    · obtain ⟨o4, o5, o6, ps, ts', rfl, co, hself, hR, hpast, hlt, hts, dr, hpp, hps, _⟩ := q
      have el : (((roadsAt o.W cs (gAt o cs sight t) ((t + 1 : Nat) : Int)).map fun r : Nat => (r : Int)).map PyData.int).length = (roadsAt o.W cs (gAt o cs sight t) ((t + 1 : Nat) : Int)).length := by rw [List.length_map, List.length_map]
      rw [el, List.take_length] at hts hps
      rw [← asks_succ] at hts
      have hps : DtA H10 ((passAt o cs sight ((t + 1 : Nat) : Int) (gAt o cs sight t)).map dPass) ps := hps
      have plen := pass_len (cs := cs) (sight := sight) (tick := ((t + 1 : Nat) : Int)) (g := gAt o cs sight t) wok
      -- the rows
      refine q_forLv (ev_var rfl) hpp hps (fun j σ' H' => ∃ o4 o5 o6, σ' = [some (V.ref s), some (V.int ((t + 1 : Nat) : Int)), some (V.ref d), some (V.ref pp), o4, o5, o6] ∧
        GCore H C f g l a s m N L o cs cv cho rs H' ∧ H' s = some (.ins CG dx (fsG m cv sight cho rp zv)) ∧ RowsAt H' rp rs (putAll ((t + 1 : Nat) : Int) (gAt o cs sight t).rows ((passAt o cs sight ((t + 1 : Nat) : Int) (gAt o cs sight t)).take j)) ∧ Dt H' (dPast (gAt o cs sight t).past) zv ∧ H' l = some (.lst ts') ∧ DtA H' (pre ++ (asksTo o cs sight (t + 1)).map dAsked) ts' ∧
        H' pp = some (.lst ps) ∧ DtA H' ((passAt o cs sight ((t + 1 : Nat) : Int) (gAt o cs sight t)).map dPass) ps)
        (fun H11 e11 => ⟨o4, o5, o6, rfl, co.ex e11, e11 _ _ hself, hR.ex e11, hpast.ex e11, e11 _ _ hlt, hts.ex e11, e11 _ _ hpp, hps.ex e11⟩)
        (fun j σ' H' _ ⟨_, _, _, _, _, _, _, _, _, _, q1, q2⟩ => ⟨q1, q2⟩) (fun j dd v σ' H11 hdj hdv q => ?_) fun σ' H11 q => ?_
      · obtain ⟨o4, o5, o6, rfl, co, hself, hR, hpast, hlt, hts, hpp, hps⟩ := q
        rw [List.getElem?_map] at hdj
        cases hpj : (passAt o cs sight ((t + 1 : Nat) : Int) (gAt o cs sight t))[j]? with
        | none => rw [hpj] at hdj; cases hdj
        | some p =>
          rw [hpj] at hdj
          cases hdj
          obtain ⟨p1, p2, p3⟩ := pass_mem (List.mem_of_getElem? hpj)
          obtain ⟨n1, n2, _, _⟩ := waits_ok G0 p2
          have hcne : cs ≠ [] := fun z => by rw [z] at n1; exact absurd n1 (Nat.not_lt_zero _)
          have hpl := put_len ((t + 1 : Nat) : Int) ((passAt o cs sight ((t + 1 : Nat) : Int) (gAt o cs sight t)).take j) (gAt o cs sight t).rows
          obtain ⟨r, hr1, hr2, hr3⟩ := hR.get (i := p.2.2) (by rw [hpl, G0.len]; exact n1)
          have hrm := List.mem_of_getElem? hr1
          refine g_tup hdv rfl fun ws hws => ?_
          obtain ⟨v1, r1, rfl, hv1, v2, r2, rfl, hv2, v3, r3, rfl, hv3, hr4⟩ := hws
          have hr4 : r3 = [] := hr4
          subst hr4
          have hv3 : v3 = .int (p.2.2 : Int) := hv3
          subst hv3
          refine ⟨v1, _, rfl, v2, _, rfl, _, _, rfl, rfl, ?_⟩
          have hrow := put_le ((t + 1 : Nat) : Int) ((passAt o cs sight ((t + 1 : Nat) : Int) (gAt o cs sight t)).take j) (gAt o cs sight t).rows p.2.2
          have htk := List.length_take_le' j (passAt o cs sight ((t + 1 : Nat) : Int) (gAt o cs sight t))
          have hwl := cok.wl _ (getD_mem (x := card0) n1)
          show tDrop _ _ [some (V.ref s), some (V.int ((t + 1 : Nat) : Int)), some (V.ref d), some (V.ref pp), some v2, some v1, some (V.int (p.2.2 : Int))] _
          refine s_app hr2 (ev_ixL (ev_fld (ev_var rfl) hself gc.cls (gc.na _ (by decide)) rfl) hR.at_ (ev_var rfl) hr3) (ev_var rfl) (by rw [List.length_map]; omega) fun H12 e12 => ?_
          have hR12 := (hR.ex e12).app (x := ((t + 1 : Nat) : Int)) hr1 (fun z => ap.rprs z)
          have er : ((putAll ((t + 1 : Nat) : Int) (gAt o cs sight t).rows ((passAt o cs sight ((t + 1 : Nat) : Int) (gAt o cs sight t)).take j)).getD p.2.2 []).map V.int ++ [V.int ((t + 1 : Nat) : Int)] = ((putAll ((t + 1 : Nat) : Int) (gAt o cs sight t).rows ((passAt o cs sight ((t + 1 : Nat) : Int) (gAt o cs sight t)).take j)).getD p.2.2 [] ++ [((t + 1 : Nat) : Int)]).map V.int := by rw [List.map_append] <;> rfl
          rw [er]
          have hr12 := e12 _ _ hr2
          have F2 : Fk (fun b => b = r) H12 (upd H12 r (.lst (((putAll ((t + 1 : Nat) : Int) (gAt o cs sight t).rows ((passAt o cs sight ((t + 1 : Nat) : Int) (gAt o cs sight t)).take j)).getD p.2.2 [] ++ [((t + 1 : Nat) : Int)]).map V.int))) := Fk.at rfl
          have so12 : So (fun b => b = r) H12 := fun b u z q => by
            subst z
            rw [hr12] at q
            cases q
            exact .inl ⟨_, rfl⟩
          refine ⟨some v2, some v1, some (V.int (p.2.2 : Int)), rfl, (co.ex e12).fk F2 so12 fun b z => ?_, F2 _ _ (fun z => srs (z ▸ hrm)) (e12 _ _ hself), ?_, (hpast.ex e12).tk (F2.tk so12), F2 _ _ (fun z => ap.lrs (z ▸ hrm)) (e12 _ _ hlt), (hts.ex e12).tk (F2.tk so12), F2 _ _ (fun z => pprs (z ▸ hrm)) (e12 _ _ hpp), (hps.ex e12).tk (F2.tk so12)⟩
          · subst z
            exact ⟨fun q => mrs (q ▸ hrm), fun hc q => ap.ars hc (q ▸ hrm), .inl (.inr (.inr hrm))⟩
          · rw [take_snoc hpj, put_snoc]
            exact hR12
      · obtain ⟨o4, o5, o6, rfl, co, hself, hR, hpast, hlt, hts, hpp, hps⟩ := q
        rw [List.length_map, List.take_length] at hR
        have hR : RowsAt H11 rp rs (gAt o cs sight (t + 1)).rows := hR
        have gp := G0.past
        -- the past
        refine s_fldD (ed_cat (ds := (gAt o cs sight t).past.map dPass) (es := (sortP (passAt o cs sight ((t + 1 : Nat) : Int) (gAt o cs sight t))).map dPass) (ed_of (ev_fld (ev_var rfl) hself gc.cls (gc.na _ (by decide)) rfl) hpast) (ed_tupleOf (eld_sorted' (enc := dPass) (ev_var rfl) hpp hps al_pass so_pass fun b _ => de_pass b).es) ?_) (ev_var rfl) hself gc.cls (gc.na _ (by decide)) (by show 6 < 1000; decide) fun pv' H12 e12 hpv => ?_
        · unfold sortP
          rw [List.length_map, List.length_map, List.length_mergeSort]
          omega
        rw [← List.map_append] at hpv
        have hpv : Dt H12 (dPast (gAt o cs sight (t + 1)).past) pv' := hpv
        have hself12 := e12 _ _ hself
        have F3 : Fk (fun b => b = s) H12 (upd H12 s (.ins CG dx (putF "past" pv' (fsG m cv sight cho rp zv)))) := Fk.at rfl
        have so12 : So (fun b => b = s) H12 := fun b u z q => by
          subst z
          rw [hself12] at q
          cases q
          exact .inr ⟨_, _, _, rfl⟩
        have co2 := (co.ex e12).fk F3 so12 fun b z => by
          subst z
          exact ⟨fun q => ap.ms q.symm, fun hc q => as_ hc q, .inl (.inr (.inl rfl))⟩
        exact k pv' ts' _ co2.fr ⟨upd_same, co2.made, co2.cards, co2.nt, (hR.ex e12).fk2 F3 (fun z => srp z.symm) (fun r hr z => srs (z ▸ hr)), hpv.tk (F3.tk so12), F3 _ _ (fun z => sl z.symm) (e12 _ _ hlt), (hts.ex e12).tk (F3.tk so12), G.pl⟩
end
end Z
/-! Pg: Guided.hours_so_far, stranger_hours. -/
namespace Z
open PySem PySem.Spec PyProof.Rows L2 Evl

def maxI : List Int → Int
  | [] => 0
  | x :: xs => if x > maxI xs then x else maxI xs
theorem maxI_nn : ∀ ns, 0 ≤ maxI ns
  | [] => Int.le_refl _
  | x :: xs => by
    have := maxI_nn xs
    unfold maxI
    split <;> omega
theorem le_maxI {y : Int} : ∀ {ns : List Int}, y ∈ ns → y ≤ maxI ns
  | x :: xs, h => by
    unfold maxI
    rcases List.mem_cons.mp h with rfl | h
    · split <;> omega
    · have := le_maxI h
      split <;> omega
theorem maxI_le {m : Int} (h0 : 0 ≤ m) : ∀ {ns : List Int}, (∀ y ∈ ns, y ≤ m) → maxI ns ≤ m
  | [], _ => h0
  | x :: xs, h => by
    have a := h x (List.mem_cons_self ..)
    have b := maxI_le h0 (ns := xs) fun y hy => h y (List.mem_cons_of_mem _ hy)
    unfold maxI
    split <;> omega
theorem maxI_is {ns : List Int} {m : Int} (h : m ∈ 0 :: ns) (hb : ∀ y ∈ 0 :: ns, y ≤ m) : m = maxI ns := by
  have h0 : 0 ≤ m := hb 0 (List.mem_cons_self ..)
  have h1 := maxI_le h0 (ns := ns) fun y hy => hb y (List.mem_cons_of_mem _ hy)
  rcases List.mem_cons.mp h with rfl | h
  · have := maxI_nn ns
    omega
  · have := le_maxI h
    omega
def maxH (cs : List Card) : Int := maxI (cs.map (·.home))
def lastOf (cs : List Card) : Nat := (maxH cs + 20).toNat
section
variable {K : PySem.W.Frag} {σ : L2.St} {H : Hp} {ta tb te tl : TE} {tt : TT} {ds es : List PyData} {i : Nat} {vs : List Nat}
/-- xs + ys, two new lists -/
theorem eld_catL (ha : ELD ta σ H ds) (hb : ELD tb σ H es) (hl : ds.length + es.length ≤ 100000) : ELD (tOp (rAddA K) ta tb) σ H (ds ++ es) := fun H1 e1 Q q =>
  ha H1 e1 _ fun p xs H2 hp e2 h2 hx => hb H2 (e1.trans e2) _ fun p' ys H3 hp' e3 h3 hy => by
    have l1 := hx.len
    have l2 := hy.len
    exact .inr (.inr ⟨p, p', xs, ys, rfl, rfl, e3 _ _ h2, h3, by rw [sizeLine_eq]; omega, fun r hr => q r _ _ (fresh_back (e2.trans e3) hr) ((e2.trans e3).trans (Ex.new hr)) upd_same (((hx.ex e3).ex (Ex.new hr)).app (hy.ex (Ex.new hr)))⟩)
theorem ev_max1 {ns : List Int} (h : ELD te σ H ((0 :: ns).map PyData.int)) : Ev (tCB (rMax K) (tCons te tNil)) σ H (.int (maxI ns)) := fun H1 e1 Q q =>
  h H1 e1 _ fun p vs H2 hp e2 h2 hx => ⟨p, 0 :: ns, rfl, SqL.of (by rw [← hx.ints]; exact h2), Nat.succ_pos _, fun m hm hb => by
    rw [maxI_is hm hb]
    exact q H2 e2⟩
/-- max([0] + [card[2] for card in cards]) -/
theorem ev_maxH {cs : List Card} (hs : ES tl σ H (cs.map dCard)) (hw : ∀ x, wipe ((wipe σ vs).set i (some x)) vs = wipe σ vs) (hj : ∀ x, ((wipe σ vs).set i (some x))[i]? = some (some x)) (hn : cs.length ≤ 1000) :
    Ev (tCB (rMax K) (tCons (tOp (rAddA K) (tLst (tCons (tC (.int 0)) tNil)) (tLc (iSq K tl) (gName i) tYes (tOp (rIx K) (tVar i) (tC (.int 2))) vs)) tNil)) σ H (.int (maxH cs)) := by
  refine ev_max1 (ELD.is (eld_catL (eld_lst (ead_cons (edI ev_c) ead_nil) (by show 1 ≤ 100000; decide)) (eld_all cs dCard (fun c => .int c.home) hs mono_name (by omega) fun c v H' hc e hd => ⟨Ex.refl _, hw _, fun _ _ _ q => q _ (Ex.refl _), edI (ev_chome (ed_var (hj _) hd))⟩) ?_) ?_)
  · rw [List.length_map]
    show 1 + cs.length ≤ 100000
    omega
  · rw [List.map_cons, List.map_map] <;> rfl
end
theorem s_appD {K : PySem.W.Frag} {σ : L2.St} {H : Hp} {ta te : TE} {D : Ends} {d : PyData} {l : Addr} {xs : List V} (hl : H l = some (.lst xs)) (ha : Ev ta σ H (.ref l)) (h : ED te σ H d) (hz : xs.length < 100000)
    (k : ∀ y H1, Ex H H1 → Dt H1 d y → D.nx σ (upd H1 l (.lst (xs ++ [y])))) : tDrop (tBM K "list" rAppend ta (tCons te tNil)) D σ H := ha H (Ex.refl H) _ fun H1 e1 =>
  ⟨Or.inl ⟨rfl, xs, sq_of (e1 l _ hl)⟩, h H1 e1 _ fun y H2 e2 hy => ⟨l, xs, y, rfl, rfl, e2 l _ (e1 l _ hl), sz_lt hz, k y H2 (e1.trans e2) hy⟩⟩
/-- for a, b in zip(t, xs), a tuple and a list that stand -/
theorem q_forZr {K : PySem.W.Frag} {σ : L2.St} {H : Hp} {ta tb : TE} {i j : Nat} {tu tz : TS} {D : Ends} {ca rp : Addr} {cxs ys : List V} (hv : Ev ta σ H (.ref ca)) (hca : Rd H ca (.tup cxs)) (hv2 : Ev tb σ H (.ref rp)) (hrp : H rp = some (.lst ys)) (Pv : Nat → L2.St → Hp → Prop) (h0 : ∀ H1, Ex H H1 → Pv 0 σ H1)
    (hG : ∀ n σ' H', Pv n σ' H' → Rd H' ca (.tup cxs) ∧ H' rp = some (.lst ys))
    (turn : ∀ n x1 x2 σ' H' T, n < min cxs.length ys.length → cxs[n]? = some x1 → ys[n]? = some x2 → H' T = none → Pv n σ' H' → tu { D with nx := Pv (n + 1), ct := Pv (n + 1), bk := tz D } ((σ'.set i (some x1)).set j (some x2)) (upd H' T (.tup [x1, x2])))
    (hd : ∀ σ' H', Pv (min cxs.length ys.length) σ' H' → tz D σ' H') : tSeq (tFor (iZf true false K (tCons ta (tCons tb tNil))) (gTup K 2 (gCons (gName i) (gCons (gName j) gNil))) tu) tz D σ H :=
  hv H (Ex.refl H) _ fun H1 e1 => hv2 H1 e1 _ fun H2 e2 => ⟨ca, rp, cxs, ys, rfl, .inl (ex_rd (e1.trans e2) hca), SqL.of ((e1.trans e2) _ _ hrp), for_it (D := { D with nx := tz D }) (walk_zf (f := true) (g := false) (xs := cxs) (ys := ys)) Pv (h0 H2 (e1.trans e2)) (fun n σ' H' hi p => ⟨.inl (hG n σ' H' p).1, SqL.of (hG n σ' H' p).2⟩) (fun n x σ' H3 H4 hi p hyy => by
    obtain ⟨T, x1, x2, rfl, hT, rfl, q1, q2⟩ := hyy
    exact ⟨T, [x1, x2], rfl, SqT.of upd_same, rfl, _, _, rfl, _, _, rfl, rfl, turn n x1 x2 σ' H3 T hi q1 q2 hT p⟩) fun σ' H' p => hd σ' H' p⟩
def spHours (C CG : Addr) : Sp := fun vs H Q _ => ∃ (s m dx rp : Addr) (rs : List Addr) (W : Web) (cs : List Card) (cv cho pv : V) (sight : Int) (rows : List (List Int)), vs = [.ref s] ∧ GAt H C CG s m dx W cs cv sight cho rp pv ∧ RowsAt H rp rs rows ∧ rows.length = cs.length ∧ cs.length ≤ 1000 ∧
  (∀ k, k < cs.length → (rows.getD k []).length ≤ (cs.getD k card0).way.length ∧ (cs.getD k card0).way.length ≤ 100) ∧ ∀ v H', Ex H H' → Dt H' (dPadded cs rows) v → Q v H'
def spStranger (C : Addr) : Sp := fun vs H Q _ => ∃ (m l f g a : Addr) (N L : LF) (o : Who) (cs : List Card) (cv cho : V) (sight : Int) (lot : List Nat) (hours : Bool) (pre : List PyData) (ts0 : List V), vs = [.ref m, cv, .int sight, cho] ∧ MadeAt H C m o.W ∧ WebOk o.W ∧ Dt H (dCards cs) cv ∧ (∀ c ∈ cs, CardOk o.W lot c) ∧ cs.length ≤ 1000 ∧ cs.all (isCardB o.W hours) = true ∧
  (cs ≠ [] → cho = .ref f ∧ NotAt H f g l a N L o) ∧ H l = some (.lst ts0) ∧ DtA H pre ts0 ∧ pre.length ≤ 1000 ∧ 0 ≤ sight ∧ (∀ c ∈ cs, c.home ≤ 420) ∧
  ∀ v ts H', Fr1 l H H' → H' l = some (.lst ts) → DtA H' (pre ++ (asksTo o cs sight (lastOf cs)).map dAsked) ts → Dt H' (dPadded cs (gAt o cs sight (lastOf cs)).rows) v → Q v H'
abbrev s_Guided_hours_so_far : Stmt := inClass (top 33) 5
abbrev N_Guided_hours_so_far : List Str := ["self", "found", "card", "row"]
theorem sc_Guided_hours_so_far : FnScope N_Guided_hours_so_far ["self"] (defScope s_Guided_hours_so_far) := ⟨rfl, rfl, rfl, by decide +kernel, rfl, by decide +kernel, by decide +kernel⟩
abbrev s_stranger_hours : Stmt := top 34
abbrev N_stranger_hours : List Str := ["web", "cards", "ahead", "choose", "guided", "tick", "card"]
theorem sc_stranger_hours : FnScope N_stranger_hours ["web", "cards", "ahead", "choose"] (defScope s_stranger_hours) := ⟨rfl, rfl, rfl, by decide +kernel, rfl, by decide +kernel, by decide +kernel⟩
section
variable {P : Program} {w : World} {K : PySem.W.Frag} {mg : Str → Option Value} {base : Heap} {fa : Addr} {fd : FuncData} {C CG : Addr}
theorem ok_g_hours (F : Fun K "hours_so_far" "Guided.hours_so_far" s_Guided_hours_so_far fa fd) (B : Bl mg) (gc : GuiC K CG) : FnOk P w K mg base CX0 1 fa fd ["self"] (spHours C CG) := by
  refine F.ok sc_Guided_hours_so_far (fun vs H Q E h => ?_) (fun cdv A outer s H vs Q E hr h => ?_)
  · obtain ⟨s, m, dx, rp, rs, W, cs, cv, cho, zv, sight, rows, rfl, _⟩ := h
    rfl
  · obtain ⟨s, m, dx, rp, rs, W, cs, cv, cho, zv, sight, rows, rfl, hG, hR, hl, hn, hk, k⟩ := h
    refine ⟨_, (pss_cons (ps_set (i := 1) sc_Guided_hours_so_far.nd rfl (.inl rfl) (pe_lst pa_nil))
    (pss_cons (ps_for PassesOwn.never rfl (k_zf (K := K) true false (by rfl) B.zip (pa_cons (k_fld (K := K) (pv 0)) (pa_cons (k_fld (K := K) (pv 0)) pa_nil))) (k_tup (K := K) (n := 2) (by rfl) (pgs_cons (pg_name (i := 2) sc_Guided_hours_so_far.nd rfl (.inl rfl)) (pgs_cons (pg_name (i := 3) sc_Guided_hours_so_far.nd rfl (.inl rfl)) pgs_nil)))
    (pss_one (ps_expr (pe_bm PySem.F.plainAttrs_list PySem.F.slot_list_append PySem.F.type_list_append mt_append (pv 1) (pa_cons (pe_op (kAdd (K := K)) (pe_callTy (kTup (K := K)) (by rfl) B.tuple b_tuple (pa_cons (pv 3) pa_nil)) (pe_op (kMul (K := K)) (pe_tup (pa_cons pe_non pa_nil)) (pe_op oSub (pe_callB (kLen (K := K)) (by rfl) B.len b_len (pa_cons (pe_ix (kIx (K := K)) (pv 2) pe_int (fun _ _ => rfl)) pa_nil)) (pe_callB (kLen (K := K)) (by rfl) B.len b_len (pa_cons (pv 3) pa_nil))))) pa_nil)))))
    (pss_one (ps_ret (pe_callTy (kTup (K := K)) (by rfl) B.tuple b_tuple (pa_cons (pv 1) pa_nil)))))), ?_⟩
    refine q_asgLD (eld_lst ead_nil (by decide)) fun fp _ H1 hfp e1 h1 hx1 => ?_
    cases (hx1 : _ = [])
    obtain ⟨ca, cxs, rfl, hca, hcx⟩ := hG.cards
    have hcl := hcx.len
    rw [List.length_map] at hcl
    have hrl := hR.len
    have lm : min cxs.length (rs.map V.ref).length = cs.length := by rw [List.length_map]; omega
    show tSeq _ _ _ [some (V.ref s), some (V.ref fp), none, none] _
    refine q_forZr ((hG.ex e1).fCardsV gc (ev_var rfl)) (ex_rd e1 hca) ((hG.ex e1).fRows gc (ev_var rfl)) (e1 _ _ hR.at_) (fun n σ' H' => ∃ o2 o3 vs, σ' = [some (V.ref s), some (V.ref fp), o2, o3] ∧ Ex H H' ∧ H' fp = some (.lst vs) ∧ DtA H' ((List.range n).map fun k => dPadRow (cs.getD k card0).way (rows.getD k [])) vs) (fun H2 e2 => ⟨none, none, [], rfl, e1.trans e2, e2 _ _ h1, rfl⟩)
      (fun n σ' H' ⟨o2, o3, vs, _, ex, _⟩ => ⟨ex_rd ex hca, ex _ _ hR.at_⟩) (fun n x1 x2 σ' H4 T hi q1 q2 hT p => ?_) fun σ' H4 p => ?_
    · obtain ⟨o2, o3, vs, rfl, ex, hf, hx⟩ := p
      rw [lm] at hi
      have eT : Ex H4 (upd H4 T (.tup [x1, x2])) := Ex.new hT
      obtain ⟨d1, a1, a2⟩ := (hcx.ex (ex.trans eT)).get' q1
      rw [map_at (x := card0) hi] at a1
      cases a1
      rw [List.getElem?_map] at q2
      cases er : rs[n]? with
      | none => rw [er] at q2; cases q2
      | some r =>
        rw [er] at q2
        have q2 : V.ref r = x2 := Option.some.inj q2
        subst q2
        have hr := (ex.trans eT) _ _ (hR.row n r er)
        have hx5 := hx.ex eT
        have hf5 := eT _ _ hf
        obtain ⟨k1, k2⟩ := hk n hi
        have vl := hx.len
        rw [List.length_map, List.length_range] at vl
        generalize upd H4 T (.tup [x1, .ref r]) = H5 at *
        have ex5 := ex.trans eT
        show tDrop _ _ [some (V.ref s), some (V.ref fp), some x1, some (V.ref r)] _
        have hrow : ∀ {H7}, Ex H5 H7 → ES (tVar 3) [some (V.ref s), some (V.ref fp), some x1, some (V.ref r)] H7 ((rows.getD n []).map PyData.int) := fun e => es_ints (ev_var rfl) (e _ _ hr)
        refine s_appD (d := dPadRow (cs.getD n card0).way (rows.getD n [])) hf5 (ev_var rfl) (ed_cat (ed_tupleOf (hrow (Ex.refl _))) (ed_rep (ed_tup (ead_cons (edN ev_c) ead_nil) (by decide)) (ev_isI (ev_sub (ev_lenM (ed_cway (ed_var rfl a2)).es) (ev_lenM (hrow (Ex.refl _)))) (by omega)) (by omega)) ?_) (by omega) fun y H7 e57 hy => ?_
        · rw [List.length_map, List.length_replicate]
          omega
        have hf7 := e57 _ _ hf5
        have tk := Tk.mut (o := .lst (vs ++ [y])) hf7
        have hf0 : H fp = none := hfp
        refine ⟨_, _, vs ++ [y], rfl, Ex.mut (ex5.trans e57) hf0, upd_same, ?_⟩
        rw [List.range_succ, List.map_append]
        exact ((hx5.ex e57).tk tk).snoc (hy.tk tk)
    · obtain ⟨o2, o3, vs, rfl, ex, hf, hx⟩ := p
      rw [lm] at hx
      refine s_retD (ed_tupleOf (es_list (ev_var rfl) hf hx)) fun v H5 e5 hv => k v H5 (ex.trans e5) ?_
      unfold dPadded
      exact hv
theorem ok_stranger_hours (F : Fun K "stranger_hours" "stranger_hours" s_stranger_hours fa fd) (B : Bl mg) (c_check_some_cards : Cal P w K mg base "check_some_cards" 7 ["web", "thing"] (spCheck C)) (c_check_from : Cal P w K mg base "check_from" 2 ["thing", "least"] spFrom)
    (c_Guided : CalN P w K mg base "Guided" CG 1 ["self", "web", "cards", "ahead", "choose"] (spGInit CG)) (c_go : CalM P w K mg base CG "go" 6 ["self", "tick"] (spGo C CG)) (c_hours_so_far : CalM P w K mg base CG "hours_so_far" 1 ["self"] (spHours C CG)) (N_FURTHER : Num mg "FURTHER" 20) :
    FnOk P w K mg base CX0 8 fa fd ["web", "cards", "ahead", "choose"] (spStranger C) := by
  refine F.ok sc_stranger_hours (fun vs H Q E h => ?_) (fun cdv A outer s H vs Q E hr h => ?_)
  · obtain ⟨m, l, f, g, a, N, L, o, cs, cv, cho, sight, lot, hours, pre, ts0, rfl, _⟩ := h
    rfl
  · obtain ⟨m, l, f, g, a, N, L, o, cs, cv, cho, sight, lot, hours, pre, ts0, rfl, hM, wok, hc, ok, hn, hall, hnt, hl, hpre, hprl, hsi, hh, k⟩ := h
    refine ⟨_, (pss_cons (ps_expr (pe_callC c_check_some_cards (hr.mono (by decide)) (by rfl) (pa_cons (pv 0) (pa_cons (pv 1) pa_nil))))
    (pss_cons (ps_expr (pe_callC c_check_from (hr.mono (by decide)) (by rfl) (pa_cons (pv 2) (pa_cons pe_int pa_nil))))
    (pss_cons (ps_set (i := 4) sc_stranger_hours.nd rfl (.inl rfl) (pe_makeC c_Guided (hr.mono (by decide)) (by rfl) (pa_cons (pv 0) (pa_cons (pv 1) (pa_cons (pv 2) (pa_cons (pv 3) pa_nil))))))
    (pss_cons (ps_for PassesOwn.never rfl (pi_range2 (by rfl) B.range (pa_cons pe_int (pa_cons (pe_op (kAdd (K := K)) (pe_op (kAdd (K := K)) (pe_callB (kMax1 (K := K)) (by rfl) B.max b_max (pa_cons (pe_op (kAdd (K := K)) (pe_lst (pa_cons pe_int pa_nil)) (pe_lc (own := [("card", 6)]) rfl sc_stranger_hours.nd (k_sq (K := K) (pv 1)) (blkOk_by (N := N_stranger_hours) (sc := defScope s_stranger_hours) (by decide +kernel)) (fun _ _ _ _ _ => (pg_name (i := 6) sc_stranger_hours.nd rfl (.inl rfl))) (fun _ _ _ _ _ => pts_nil) (fun _ _ _ _ _ => (pe_ix (kIx (K := K)) (pv 6) pe_int (fun _ _ => rfl))))) pa_nil)) (pe_num N_FURTHER (by rfl))) pe_int) pa_nil))) (pg_name (i := 5) sc_stranger_hours.nd rfl (.inl rfl))
    (pss_one (ps_expr (pe_methC c_go (hr.mono (by decide)) (pv 4) (pa_cons (pv 5) pa_nil)))))
    (pss_one (ps_ret (pe_methC0 c_hours_so_far (hr.mono (by decide)) (pv 4)))))))), ?_⟩
    refine q_drop (v := .non) (ev_callP (eap_v (ev_var rfl) (eap_d (ed_var rfl hc) eap_nil)) fun vs H1 e1 hp Q q => ?_) fun H1 e1 => ?_
    · obtain ⟨_, rfl, x, _, rfl, hx, rfl⟩ := hp
      exact ⟨m, x, o.W, lot, hours, cs, rfl, hM.ex e1, wok, hx, ok, hn, hall, q⟩
    refine q_drop (v := .non) (ev_callP (eap_v (ev_var rfl) (eap_v ev_c eap_nil)) fun vs H2 e2 hp Q q => ?_) fun H2 e2 => ?_
    · obtain ⟨_, rfl, _, rfl, rfl⟩ := hp
      exact ⟨sight, 0, rfl, hsi, q⟩
    have e02 := e1.trans e2
    refine q_asgMake (eap_v (ev_var rfl) (eap_v (ev_var rfl) (eap_v (ev_var rfl) (eap_v (ev_var rfl) eap_nil)))) fun ws H3 e3 hp s dx hs hdx hne => ?_
    obtain ⟨_, rfl, _, rfl, _, rfl, _, rfl, rfl⟩ := hp
    have e03 := e02.trans e3
    have e4 : Ex H3 (upd (upd H3 dx (.own s)) s (.ins CG dx [])) := (Ex.new hdx).trans (Ex.new (by rw [upd_ne hne.symm]; exact hs))
    have e04 := e03.trans e4
    refine ⟨s, dx, m, cv, cho, sight, cs, rfl, upd_same, hc.ex e04, hn, fun rp rs pv H5 F5 hself hR hrs hrp hprs hpv => ⟨rfl, ?_⟩⟩
    have s0 : H s = none := fresh_back e03 hs
    have ne0 : ∀ {b u}, H b = some u → b ≠ s := fun {b u} z q => by rw [q, s0] at z; cases z
    have e05 : Ex H H5 := fun b u hb => F5 b u (ne0 hb) (e04 _ _ hb)
    have old : ∀ {b u}, H b = some u → upd (upd H3 dx (.own s)) s (.ins CG dx []) b = some u := fun z => e04 _ _ z
    have lrs : l ∉ rs := fun z => by
      have := hrs l z
      rw [old hl] at this
      cases this
    have rpl : rp ≠ l := fun z => by rw [z, old hl] at hrp; cases hrp
    have ars : cs ≠ [] → a ∉ rs := fun hcn z => by
      obtain ⟨xs, q, _⟩ := (hnt hcn).2.str.2.2.1
      have := hrs a z
      rw [old q] at this
      cases this
    have ms : m ≠ s := by
      obtain ⟨dx', vr, vm, vt, vn, vl, q, _⟩ := hM
      exact ne0 q
    have ap : GApart cs s m rp l a rs := ⟨ms, rpl, hprs, lrs, ars⟩
    have cok : CsOk o.W cs := ⟨hn, fun c hcm => (ok c hcm).way.roads, fun c hcm => Nat.le_trans (ok c hcm).way.l8 (by decide)⟩
    have hlast : maxH cs ≤ 420 := maxI_le (by decide) fun y hy => by
      obtain ⟨c, hcm, rfl⟩ := List.mem_map.mp hy
      exact hh c hcm
    have hlast0 : 0 ≤ maxH cs := maxI_nn _
    have st0 : GState H5 C CG s m dx rp l f g a rs N L o cs cv cho pv sight 0 pre ts0 := ⟨hself, hM.ex e05, hc.ex e05, fun hcn => ⟨(hnt hcn).1, Fk.notAt (S := fun _ => False) (Fk.of e05) (fun _ _ z => z.elim) (fun z => z) (hnt hcn).2⟩, hR, hpv, e05 _ _ hl, by
      show DtA H5 (pre ++ []) ts0
      rw [List.append_nil]
      exact hpre.ex e05, hprl⟩
    have back : ∀ b, (b = s ∨ b ∈ rs) → H b = none := fun b z => by
      rcases z with rfl | z
      · exact s0
      · cases q : H b with
        | none => rfl
        | some u =>
          have := hrs b z
          rw [old q] at this
          cases this
    show tSeq _ _ _ [some (V.ref m), some cv, some (V.int sight), some cho, some (V.ref s), none, none] _
    refine q_forR2 (lo := 1) (n := maxH cs + 20 + 1) (ea_cons ev_c (ea_cons (ev_add (ev_add (ev_maxH (ED.es (ed_var rfl (hc.ex e05))) (fun _ => rfl) (fun _ => rfl) hn) ev_c) ev_c) ea_nil)) (by omega) (fun t σ' H' => ∃ o5 pv ts, σ' = [some (V.ref m), some cv, some (V.int sight), some cho, some (V.ref s), o5, none] ∧ GState H' C CG s m dx rp l f g a rs N L o cs cv cho pv sight t pre ts ∧ Fr1 l H H') (fun H6 e6 => ?_) (fun t σ' H6 ht p => ?_) fun σ' H6 p => ?_
    · exact ⟨none, pv, ts0, rfl, ⟨e6 _ _ st0.self, st0.made.ex e6, st0.cards.ex e6, fun hcn => ⟨(st0.nt hcn).1, Fk.notAt (S := fun _ => False) (Fk.of e6) (fun _ _ z => z.elim) (fun z => z) (st0.nt hcn).2⟩, st0.rows.ex e6, st0.past.ex e6, e6 _ _ st0.notes, st0.asks.ex e6, hprl⟩, Fr1.of (e05.trans e6)⟩
    · obtain ⟨o5, pv, ts, rfl, st, fr⟩ := p
      have et : (1 : Int) + (t : Int) = ((t + 1 : Nat) : Int) := by omega
      rw [et]
      refine ⟨_, rfl, s, dx, _, rfl, st.self, rfl, _, rfl, ?_⟩
      refine ⟨s, m, dx, rp, l, f, g, a, rs, N, L, o, cs, cv, cho, pv, sight, t, pre, ts, rfl, st, ap, cok, wok, hsi, by omega, fun pv' ts' H7 F7 st' => ⟨_, pv', ts', rfl, st', fun b u hb hu => ?_⟩⟩
      refine F7 b u (fun z => ?_) (fr b u hb hu)
      rcases z with z | z
      · exact hb z
      · have := back b z
        rw [hu] at this
        cases this
    · obtain ⟨o5, pv, ts, rfl, st, fr⟩ := p
      have en : (maxH cs + 20 + 1 - 1).toNat = lastOf cs := by unfold lastOf; omega
      rw [en] at st
      have G0 := gAt_ok o cs sight wok (lastOf cs)
      refine ⟨_, rfl, s, dx, _, rfl, st.self, rfl, s, m, dx, rp, rs, o.W, cs, cv, cho, pv, sight, _, rfl, ⟨st.self, st.made, st.cards⟩, st.rows, G0.len, hn, fun j hj => ⟨G0.le j hj, cok.wl _ (getD_mem hj)⟩, fun v H7 e7 hv => ?_⟩
      exact k v ts H7 (fr.trans (Fr1.of e7)) (e7 _ _ st.notes) (st.asks.ex e7) hv
end
end Z
/-! La: what evaluates with draws from the pool; _law_pool, _law_lot, _law_letter. -/
namespace Z
open PySem PySem.Spec PyProof.Rows L2 Evl

/-- whatever te does, it ends so -/
def EF (te : TE) (σ : L2.St) (H : Hp) (G : V → Hp → Prop) : Prop := ∀ Q : VK, (∀ v H', G v H' → Q v H') → te σ H Q
/-- only the pool changed -/
structure Dn (p c : Addr) (H H' : Hp) : Prop where
  fr : Fr2 p c H H'
  at_ : PoolAt H' p c
section
variable {K : PySem.W.Frag} {p c : Addr} {σ : L2.St} {H H' H1 H2 : Hp} {ta tb te tp tm : TE} {tt : TT} {v : V} {d : PyData} {G G1 : V → Hp → Prop} {D : Ends} {tz : TS} {i j : Nat} {vs : List Nat}
theorem Dn.refl (h : PoolAt H p c) : Dn p c H H := ⟨Fr2.refl, h⟩
theorem Dn.trans (a : Dn p c H H1) (b : Dn p c H1 H2) : Dn p c H H2 := ⟨a.fr.trans b.fr, b.at_⟩
theorem PoolAt.ex (h : PoolAt H p c) (e : Ex H H') : PoolAt H' p c := by
  obtain ⟨z, n, cells, h1, h2, h3⟩ := h
  exact ⟨z, n, cells, e _ _ h1, e _ _ h2, h3⟩
theorem Dn.of (h : PoolAt H p c) (e : Ex H H') : Dn p c H H' := ⟨Fr2.of e, h.ex e⟩
theorem Dn.ex (a : Dn p c H H1) (e : Ex H1 H2) : Dn p c H H2 := a.trans (Dn.of a.at_ e)
theorem PoolAt.so (h : PoolAt H p c) : So (fun b => b = p ∨ b = c) H := fun b u z q => by
  obtain ⟨z1, n, cells, h1, h2, h3⟩ := h
  rcases z with rfl | rfl
  · rw [h1] at q
    cases q
    exact .inl ⟨_, rfl⟩
  · rw [h2] at q
    cases q
    exact .inl ⟨_, rfl⟩
theorem Dn.fk (a : Dn p c H H') : Fk (fun b => b = p ∨ b = c) H H' := fun b o n q => a.fr b o (fun z => n (.inl z)) (fun z => n (.inr z)) q
theorem Dn.tk (a : Dn p c H H') (h : PoolAt H p c) : Tk H H' := a.fk.tk h.so
theorem PoolAt.ne_new {b : Addr} (h : PoolAt H p c) (n : H b = none) : b ≠ p ∧ b ≠ c := by
  obtain ⟨z1, m, cells, h1, h2, h3⟩ := h
  exact ⟨(fun z => by rw [z, h1] at n; cases n), (fun z => by rw [z, h2] at n; cases n)⟩
/-- an object that is not known may change -/
theorem Dn.mut {b : Addr} {o : HO} (a : Dn p c H H') (h : PoolAt H p c) (n : H b = none) : Dn p c H (upd H' b o) := by
  obtain ⟨n1, n2⟩ := h.ne_new n
  refine ⟨fun x u x1 x2 q => ?_, ?_⟩
  · rw [upd_ne (ne_of_none q n)]
    exact a.fr x u x1 x2 q
  · obtain ⟨z1, m, cells, h1, h2, h3⟩ := a.at_
    exact ⟨z1, m, cells, by rw [upd_ne n1.symm]; exact h1, by rw [upd_ne n2.symm]; exact h2, h3⟩
theorem ef_ev (h : Ev te σ H v) : EF te σ H fun x H' => x = v ∧ Ex H H' := fun Q q => h H (Ex.refl H) Q fun H1 e => q v H1 ⟨rfl, e⟩
theorem EF.mono (h : EF te σ H G) (m : ∀ v H', G v H' → G1 v H') : EF te σ H G1 := fun Q q => h Q fun v H' g => q v H' (m v H' g)
theorem ef_draw {m : Int} (hp : Ev tp σ H (.ref p)) (hm : Ev tm σ H (.int m)) (h0 : 0 < m) (h1 : m ≤ 100000) (hP : PoolAt H p c) : EF (tCall spDraw [] E0 (tCons tp (tCons tm tNil))) σ H fun v H' => ∃ d : Nat, v = .int (d : Int) ∧ (d : Int) < m ∧ Dn p c H H' := fun Q q =>
  (eap_v hp (eap_v hm eap_nil)) H (Ex.refl H) _ fun ws H1 e1 hw => by
    obtain ⟨_, rfl, _, rfl, rfl⟩ := hw
    show spDraw [.ref p, .int m] H1 Q E0
    refine ⟨p, c, m, rfl, h0, by omega, hP.ex e1, fun H' d d0 d1 f P => q _ H' ⟨d.toNat, ?_, by omega, (Dn.of hP e1).trans ⟨f, P⟩⟩⟩
    rw [Int.toNat_of_nonneg d0]
/-- i + draw -/
theorem ef_addC {k : Int} {m : Int} (h : EF tb σ H fun v H' => ∃ d : Nat, v = .int (d : Int) ∧ (d : Int) < m ∧ Dn p c H H') : EF (tOp (rAddA K) (tC (.int k)) tb) σ H fun v H' => ∃ d : Nat, v = .int (k + (d : Int)) ∧ (d : Int) < m ∧ Dn p c H H' := fun Q q =>
  h _ fun v H' ⟨d, e, hd, dn⟩ => by
    subst e
    exact .inl ⟨k, d, rfl, rfl, q _ H' ⟨d, rfl, hd, dn⟩⟩
theorem q_asgF (h : EF te σ H G) (k : ∀ v H', G v H' → tz D (σ.set i (some v)) H') : tSeq (tAsg te (gName i)) tz D σ H := h _ k
theorem s_asgF (h : EF te σ H G) (k : ∀ v H', G v H' → D.nx (σ.set i (some v)) H') : tAsg te (gName i) D σ H := h _ k
theorem s_retF (h : EF te σ H G) (k : ∀ v H', G v H' → D.rt v H') : tRet te D σ H := h _ k
/-- xs[draw], xs a list that stands or a new one -/
theorem ef_ixL {xs : List V} {m : Int} (h : ∀ Q : VK, (∀ a H1, Dn p c H H1 → H1 a = some (.lst xs) → a ≠ p → a ≠ c → Q (.ref a) H1) → ta σ H Q) (hb : ∀ H1, Dn p c H H1 → EF tb σ H1 fun v H' => ∃ d : Nat, v = .int (d : Int) ∧ (d : Int) < m ∧ Dn p c H1 H') (hm : m ≤ xs.length) :
    EF (tOp (rIx K) ta tb) σ H fun v H' => ∃ d : Nat, xs[d]? = some v ∧ Dn p c H H' := fun Q q =>
  h _ fun a H1 dn1 h1 ap ac => hb H1 dn1 _ fun v H2 ⟨d, e, hd, dn2⟩ => by
    subst e
    have hd' : d < xs.length := by omega
    refine .inl ⟨a, xs, (d : Int), xs[d], rfl, rfl, SqL.of (dn2.fr _ _ ap ac h1), atI_nat (List.getElem?_eq_getElem hd'), q _ H2 ⟨d, List.getElem?_eq_getElem hd', dn1.trans dn2⟩⟩
/-- a comprehension with draws -/
theorem lc_pool {J : It} {n : Nat} {Gi : Hp → Prop} {Y : Nat → Hp → V → Hp → Prop} {te : TE} (W : Walk J n Gi Y) (Rel : Nat → List PyData → Prop) (r0 : Rel 0 []) (P0 : PoolAt H p c) (hG : ∀ H', Dn p c H H' → Gi H') (hn : n ≤ 50000) (hw : ∀ x, wipe ((wipe σ vs).set j (some x)) vs = wipe σ vs)
    (turn : ∀ i x ds H3 H4, i < n → Dn p c H H3 → Rel i ds → Y i H3 x H4 → Ex H3 H4 ∧ ∀ (Q1 : V → Hp → Prop) (Q0 : Hp → Prop), (∀ y H6 d, Dt H6 d y → Rel (i + 1) (ds ++ [d]) → Dn p c H4 H6 → Q1 y H6) → (∀ H5, Rel (i + 1) ds → Dn p c H4 H5 → Q0 H5) →
      tt ((wipe σ vs).set j (some x)) H4 fun b H5 => if b = true then te ((wipe σ vs).set j (some x)) H5 Q1 else Q0 H5)
    {Qd : V → Hp → Prop} (hd : ∀ q xs ds H', H q = none → H' q = some (.lst xs) → DtA H' ds xs → Rel n ds → Dn p c H H' → Qd (.ref q) H') :
    ∀ Dl, H Dl = none → ∃ Wd : Nat → Nat → Hp → Prop, (∃ m, Wd 0 m (upd H Dl (.lst []))) ∧ ∀ i m H, Wd i m H →
      (J.stop i H ∧ Qd (.ref Dl) H) ∨ (J.go i H ∧ ∃ Nx : Hp → Prop, (∀ H', Nx H' → ∃ m', m' < m ∧ Wd (i + 1) m' H') ∧ ∀ x H', J.yld i H x H' → gName j x (wipe σ vs) H' fun σ2 H2 => wipe σ2 vs = wipe σ vs ∧ tt σ2 H2 fun b H3 =>
        if b = true then te σ2 H3 fun y H4 => ∃ acc, H4 Dl = some (.lst acc) ∧ acc.length < sizeLine ∧ Nx (upd H4 Dl (.lst (acc ++ [y]))) else Nx H3) := fun Dl hD => by
  obtain ⟨np, nc⟩ := P0.ne_new hD
  refine lc_it W (fun i H' => Dn p c H H' ∧ ∃ acc ds, H' Dl = some (.lst acc) ∧ DtA H' ds acc ∧ Rel i ds ∧ acc.length ≤ i) ⟨(Dn.refl P0).mut P0 hD, [], [], upd_same, rfl, r0, Nat.le_refl _⟩ (fun i H' _ q => hG H' q.1) (fun i x H3 H4 hi ⟨dn, acc, ds, q1, q2, q3, q4⟩ hy => ?_) fun H' ⟨dn, acc, ds, q1, q2, q3, q4⟩ => hd Dl acc ds H' hD q1 q2 q3 dn
  obtain ⟨e4, ht⟩ := turn i x ds H3 H4 hi dn q3 hy
  refine ⟨hw x, ht _ _ (fun y H6 d hdy hr dn6 => ?_) fun H5 hr dn5 => ?_⟩
  · have hD6 := dn6.fr _ _ np nc (e4 _ _ q1)
    have tk := Tk.mut (o := .lst (acc ++ [y])) hD6
    have dn36 := (dn.ex e4).trans dn6
    refine ⟨acc, hD6, by rw [sizeLine_eq]; omega, dn36.mut P0 hD, acc ++ [y], ds ++ [d], upd_same, ?_, hr, by rw [List.length_append]; show _ + 1 ≤ _; omega⟩
    exact (((q2.ex e4).tk (dn6.tk (dn.ex e4).at_)).tk tk).snoc (hdy.tk tk)
  · have hD5 := dn5.fr _ _ np nc (e4 _ _ q1)
    exact ⟨(dn.ex e4).trans dn5, acc, ds, hD5, (q2.ex e4).tk (dn5.tk (dn.ex e4).at_), hr, by omega⟩
/-- over range(n) -/
theorem ef_rng {te : TE} {tn : TE} {n : Nat} (Rel : Nat → List PyData → Prop) (r0 : Rel 0 []) (P0 : PoolAt H p c) (hv : EF tn σ H fun v H' => v = .int (n : Int) ∧ Dn p c H H') (hn : n ≤ 50000) (hw : ∀ x, wipe ((wipe σ vs).set j (some x)) vs = wipe σ vs)
    (turn : ∀ i ds H4, i < n → Dn p c H H4 → Rel i ds → ∀ (Q1 : V → Hp → Prop) (Q0 : Hp → Prop), (∀ y H6 d, Dt H6 d y → Rel (i + 1) (ds ++ [d]) → Dn p c H4 H6 → Q1 y H6) → (∀ H5, Rel (i + 1) ds → Dn p c H4 H5 → Q0 H5) →
      tt ((wipe σ vs).set j (some (.int (i : Int)))) H4 fun b H5 => if b = true then te ((wipe σ vs).set j (some (.int (i : Int)))) H5 Q1 else Q0 H5) :
    EF (tLc (iRng1 (tCons tn tNil)) (gName j) tt te vs) σ H fun v H' => ∃ q xs ds, v = .ref q ∧ H q = none ∧ H' q = some (.lst xs) ∧ DtA H' ds xs ∧ Rel n ds ∧ Dn p c H H' := fun Q hQ => by
  refine hv _ fun v H1 ⟨e, dn1⟩ => ?_
  subst e
  refine ⟨(n : Int), rfl, by omega, by omega, ?_⟩
  rw [Int.toNat_natCast]
  refine lc_pool (H := H1) walk_range Rel r0 dn1.at_ (fun _ _ => trivial) hn hw (fun i x ds H3 H4 hi dn hr hy => ?_) fun q xs ds H' hq h1 h2 h3 h4 => hQ _ H' ⟨q, xs, ds, rfl, ?_, h1, h2, h3, dn1.trans h4⟩
  · obtain ⟨rfl, rfl⟩ := hy
    refine ⟨Ex.refl _, ?_⟩
    dsimp only
    rw [show ((0 : Int) + (i : Int)) = (i : Int) from Int.zero_add _]
    exact turn i ds H4 hi (dn1.trans dn) hr
  · cases z : H q with
    | none => rfl
    | some u =>
      obtain ⟨a, b⟩ := dn1.at_.ne_new hq
      rw [dn1.fr q u a b z] at hq
      cases hq
/-- over a list or a tuple of data that stands -/
theorem ef_over {α : Type} {te tl : TE} {l : List α} (enc : α → PyData) (Rel : Nat → List PyData → Prop) (r0 : Rel 0 []) (P0 : PoolAt H p c) (hs : ∀ Q : VK, (∀ f a xs H1, Ex H H1 → Sq0 f H1 a xs → DtA H1 (l.map enc) xs → a ≠ p → a ≠ c → Q (.ref a) H1) → tl σ H Q) (hn : l.length ≤ 50000) (hw : ∀ x, wipe ((wipe σ vs).set j (some x)) vs = wipe σ vs)
    (turn : ∀ i x ds v H4, l[i]? = some x → Dn p c H H4 → Rel i ds → Dt H4 (enc x) v → ∀ (Q1 : V → Hp → Prop) (Q0 : Hp → Prop), (∀ y H6 d, Dt H6 d y → Rel (i + 1) (ds ++ [d]) → Dn p c H4 H6 → Q1 y H6) → (∀ H5, Rel (i + 1) ds → Dn p c H4 H5 → Q0 H5) →
      tt ((wipe σ vs).set j (some v)) H4 fun b H5 => if b = true then te ((wipe σ vs).set j (some v)) H5 Q1 else Q0 H5) :
    EF (tLc (iSq K tl) (gName j) tt te vs) σ H fun v H' => ∃ q xs ds, v = .ref q ∧ H q = none ∧ H' q = some (.lst xs) ∧ DtA H' ds xs ∧ Rel l.length ds ∧ Dn p c H H' := fun Q hQ => by
  refine hs _ fun f a xs H1 e1 hsq hx ap ac => ⟨f, a, rfl, ⟨xs, hsq.sq⟩, ?_⟩
  have P1 := P0.ex e1
  have hlen : xs.length = l.length := by rw [hx.len, List.length_map]
  have keep : ∀ H', Dn p c H1 H' → Sq0 f H' a xs := fun H' dn => by
    cases f with
    | false => exact dn.fr _ _ ap ac hsq
    | true => exact (dn.tk P1) _ _ hsq
  refine lc_pool (H := H1) (hlen ▸ walk_sq (xs := xs)) Rel r0 P1 (fun H' dn => (keep H' dn).sq) hn hw (fun i x ds H3 H4 hi dn hr hy => ?_) fun q xs ds H' hq h1 h2 h3 h4 => hQ _ H' ⟨q, xs, ds, rfl, fresh_back e1 hq, h1, h2, h3, (Dn.of P0 e1).trans h4⟩
  obtain ⟨rfl, hx'⟩ := hy
  obtain ⟨d, h1, h2⟩ := (hx.tk (dn.tk P1)).get' hx'
  rw [List.getElem?_map] at h1
  cases hl : l[i]? with
  | none => rw [hl] at h1; cases h1
  | some y =>
    rw [hl] at h1
    cases h1
    exact ⟨Ex.refl _, turn i y ds x H4 hl ((Dn.of P0 e1).trans dn) hr h2⟩
/-- tuple(..) of what a comprehension made -/
theorem ef_tuple {R : List PyData → Prop} (h : EF ta σ H fun v H' => ∃ q xs ds, v = .ref q ∧ H q = none ∧ H' q = some (.lst xs) ∧ DtA H' ds xs ∧ R ds ∧ Dn p c H H') : EF (tCB (rTupQ K) (tCons ta tNil)) σ H fun v H' => ∃ ds, Dt H' (.tuple ds) v ∧ R ds ∧ Dn p c H H' := fun Q hQ =>
  h _ fun v H1 ⟨q, xs, ds, e, hq, h1, hx, hr, dn⟩ => by
    subst e
    exact .inl ⟨q, xs, rfl, .inl ⟨SqL.of h1, fun l hl => hQ _ _ ⟨ds, dt_tup upd_same (hx.ex (Ex.new hl)), hr, dn.ex (Ex.new hl)⟩⟩⟩
theorem eap_ld {ds : List PyData} {tr : TA} {P : List V → Hp → Prop} (h : ELD ta σ H ds) (hr : EAP tr σ H P) : EAP (tCons ta tr) σ H fun vs H' => ∃ q xs r, vs = .ref q :: r ∧ H q = none ∧ H' q = some (.lst xs) ∧ DtA H' ds xs ∧ P r H' := fun H1 e1 _ q =>
  h H1 e1 _ fun b xs H2 hb e2 h2 hx => hr H2 (e1.trans e2) _ fun vs H3 e3 z => q _ H3 (e2.trans e3) ⟨b, xs, vs, rfl, fresh_back e1 hb, e3 _ _ h2, hx.ex e3, z⟩
theorem s_retLst {t : TA} {P : List V → Hp → Prop} (h : EAP t σ H P) (k : ∀ ws H1, Ex H H1 → P ws H1 → ws.length ≤ 100000 ∧ ∀ q, H1 q = none → D.rt (.ref q) (upd H1 q (.lst ws))) : tRet (tLst t) D σ H := h H (Ex.refl H) _ fun ws H1 e1 z => by
  obtain ⟨a, b⟩ := k ws H1 e1 z
  exact ⟨by rw [sizeLine_eq]; omega, b⟩
/-- (draw,) -/
theorem ef_tup1 {R : PyData → Prop} (h : EF tb σ H fun v H' => ∃ d, Dt H' d v ∧ R d ∧ Dn p c H H') : EF (tTup (tCons tb tNil)) σ H fun v H' => ∃ d, Dt H' (.tuple [d]) v ∧ R d ∧ Dn p c H H' := fun Q hQ =>
  h _ fun v H1 ⟨d, hd, hr, dn⟩ => ⟨by show 1 ≤ sizeLine; decide, fun b hb => hQ _ _ ⟨d, dt_tup upd_same (DtA.one (hd.ex (Ex.new hb))), hr, dn.ex (Ex.new hb)⟩⟩
/-- t + (draw,) -/
theorem ef_catT {R : PyData → Prop} {ds : List PyData} {wv : V} (hi : σ[i]? = some (some wv)) (hw : Dt H (.tuple ds) wv) (hP : PoolAt H p c) (hl : ds.length ≤ 1000) (h : EF tb σ H fun v H' => ∃ d, Dt H' d v ∧ R d ∧ Dn p c H H') : EF (tOp (rAddA K) (tVar i) (tTup (tCons tb tNil))) σ H fun v H' => ∃ d, Dt H' (.tuple (ds ++ [d])) v ∧ R d ∧ Dn p c H H' := fun Q hQ =>
  ⟨wv, hi, (ef_tup1 h) _ fun v H1 ⟨d, hd, hr, dn⟩ => by
    have hw1 := hw.tk (dn.tk hP)
    obtain ⟨a, xs, rfl, ha, hx⟩ := hw1
    obtain ⟨b, ys, rfl, hb, y, r, rfl, hy, hr0⟩ := hd
    cases (hr0 : r = [])
    have l1 := hx.len
    refine .inr (.inl ⟨a, b, xs, [y], rfl, rfl, .inl ha, .inl hb, by rw [sizeLine_eq]; show xs.length + 1 ≤ _; omega, fun z => ?_, (fun _ z => by cases z), fun _ _ q hq => ?_⟩)
    · rw [z] at l1
      have : ds = [] := List.eq_nil_of_length_eq_zero l1.symm
      subst this
      exact hQ _ H1 ⟨d, ⟨b, [y], rfl, hb, DtA.one hy⟩, hr, dn⟩
    · exact hQ _ _ ⟨d, dt_tup upd_same ((hx.ex (Ex.new hq)).snoc (hy.ex (Ex.new hq))), hr, dn.ex (Ex.new hq)⟩⟩
/-- for .. in range(draw) -/
theorem q_forRF {G : Nat → Hp → Prop} {tn : TE} {tu : TS} (h : EF tn σ H fun v H' => ∃ n : Nat, v = .int (n : Int) ∧ n ≤ 100000 ∧ G n H') (Pv : Nat → Nat → L2.St → Hp → Prop) (h0 : ∀ n H1, G n H1 → Pv n 0 σ H1)
    (hs : ∀ n i σ' H', i < n → Pv n i σ' H' → tu { D with nx := Pv n (i + 1), ct := Pv n (i + 1), bk := tz D } (σ'.set j (some (.int (i : Int)))) H') (hd : ∀ n σ' H', Pv n n σ' H' → tz D σ' H') : tSeq (tFor (iRng1 (tCons tn tNil)) (gName j) tu) tz D σ H :=
  h _ fun v H1 ⟨n, e, hn, g⟩ => by
    subst e
    refine ⟨(n : Int), rfl, by omega, by omega, ?_⟩
    rw [Int.toNat_natCast]
    refine for_it (D := { D with nx := tz D }) walk_range (Pv n) (h0 n H1 g) (fun _ _ _ _ _ => trivial) (fun i x σ' H2 H3 hi q hy => ?_) fun σ' H' q => hd n σ' H' q
    obtain ⟨rfl, rfl⟩ := hy
    show tu _ (σ'.set j (some (.int (0 + (i : Int))))) _
    rw [show ((0 : Int) + (i : Int)) = (i : Int) from Int.zero_add _]
    exact hs n i σ' _ hi q
/-- xs[:k] of any list of ints -/
theorem eld_cutS {a : Addr} {ns : List Int} {k : Nat} {th : TO} (hv : Ev te σ H (.ref a)) (hs : SqL K H a (ns.map V.int)) (hk : EvO th σ H (some (k : Int))) : ELD (tSl (rSlAny K) te tNoPart th) σ H ((ns.take k).map PyData.int) := fun H1 e1 Q q =>
  hv H1 e1 _ fun H2 e2 => hk H2 (e1.trans e2) _ fun H3 e3 => .inl ⟨a, ns.map V.int, rfl, ex_l ((e1.trans e2).trans e3) hs, fun l hl => q l ((ns.map V.int).take k) _ (fresh_back (e2.trans e3) hl) ((e2.trans e3).trans (Ex.new hl)) (by rw [cut_to]; exact upd_same) (by rw [← List.map_take]; exact dta_ints _)⟩
end
def spPool (K : PySem.W.Frag) : Sp := fun vs H Q _ => ∃ (a : Addr) (ns : List Int), vs = [.ref a] ∧ SqL K H a (ns.map V.int) ∧ ns.length ≤ 63 ∧ ∀ p c H', H p = none → H c = none → Ex H H' → PoolAt H' p c → Q (.ref p) H'
def spLot : Sp := fun vs H Q _ => ∃ (p c a : Addr) (W : Web), vs = [.ref p, .ref a] ∧ PoolAt H p c ∧ WebAt H a W ∧ WebOk W ∧ a ≠ p ∧ a ≠ c ∧ ∀ v H' lot, Dn p c H H' → Dt H' (dWay lot) v → Q v H'
structure LetOk (W : Web) (l : Let) : Prop where
  way : WayOk W l.1
  l4 : l.1.length ≤ 4
  c1 : 1 ≤ l.2
  c8 : l.2 ≤ 8
def spLetter : Sp := fun vs H Q _ => ∃ (p c a : Addr) (W : Web), vs = [.ref p, .ref a, .int 4, .int 8] ∧ PoolAt H p c ∧ WebAt H a W ∧ WebOk W ∧ a ≠ p ∧ a ≠ c ∧ ∀ v H' l, Dn p c H H' → LetOk W l → Dt H' (dLet l) v → Q v H'
theorem gl_left {l m : List Nat} {i : Nat} (h : i < l.length) : (l ++ m).getD i 0 = l.getD i 0 := by
  rw [List.getD_eq_getElem?_getD, List.getD_eq_getElem?_getD, List.getElem?_append_left h]
theorem gl_last {l : List Nat} {x : Nat} : (l ++ [x]).getD l.length 0 = x := by
  rw [List.getD_eq_getElem?_getD, List.getElem?_append_right (Nat.le_refl _), Nat.sub_self] <;> rfl
theorem way_snoc {W : Web} {w : List Nat} {n : Nat} (wo : WayOk W w) (hn : n ∈ nexts W (w.getLastD 0)) (hl : w.length < 8) : WayOk W (w ++ [n]) := by
  have l1 := wo.l1
  refine ⟨by rw [List.length_append]; omega, by rw [List.length_append]; show _ + 1 ≤ _; omega, fun x hx => ?_, fun j hj => ?_⟩
  · rcases List.mem_append.mp hx with hx | hx
    · exact wo.roads x hx
    · rw [List.mem_singleton.mp hx]
      exact List.mem_range.mp (List.mem_filter.mp hn).1
  · rw [List.length_append] at hj
    have hj : j + 1 < w.length + 1 := hj
    rw [gl_left (by omega : j < w.length)]
    by_cases hjl : j + 1 < w.length
    · rw [gl_left hjl]
      exact wo.next j hjl
    · have ej : j + 1 = w.length := by omega
      have el : w.getLastD 0 = w.getD j 0 := by
        rw [List.getLastD_eq_getLast?, List.getLast?_eq_getElem?, List.getD_eq_getElem?_getD, show w.length - 1 = j by omega]
      rw [ej, gl_last, ← el]
      exact hn
abbrev s_l_pool : Stmt := top 36
abbrev N_l_pool : List Str := ["_law_script", "_law_seed", "_law_cell"]
theorem sc_l_pool : FnScope N_l_pool ["_law_script"] (defScope s_l_pool) := ⟨rfl, rfl, rfl, by decide +kernel, rfl, by decide +kernel, by decide +kernel⟩
abbrev s_l_lot : Stmt := top 40
abbrev N_l_lot : List Str := ["_law_pool_here", "_law_web_here", "_law_of", "_law_road"]
theorem sc_l_lot : FnScope N_l_lot ["_law_pool_here", "_law_web_here"] (defScope s_l_lot) := ⟨rfl, rfl, rfl, by decide +kernel, rfl, by decide +kernel, by decide +kernel⟩
abbrev s_l_letter : Stmt := top 41
abbrev N_l_letter : List Str := ["_law_pool_here", "_law_web_here", "_law_most", "_law_span", "_law_way", "_law_turn", "_law_ahead"]
theorem sc_l_letter : FnScope N_l_letter ["_law_pool_here", "_law_web_here", "_law_most", "_law_span"] (defScope s_l_letter) := ⟨rfl, rfl, rfl, by decide +kernel, rfl, by decide +kernel, by decide +kernel⟩
section
variable {P : Program} {w : World} {K : PySem.W.Frag} {mg : Str → Option Value} {base : Heap} {f : Addr} {fd : FuncData}
theorem ok_l_pool (F : Fun K "_law_pool" "_law_pool" s_l_pool f fd) (B : Bl mg) : FnOk P w K mg base CX0 1 f fd ["_law_script"] (spPool K) := by
  refine F.ok sc_l_pool (fun vs H Q E h => ?_) (fun cdv A outer s H vs Q E hr h => ?_)
  · obtain ⟨a, ns, rfl, _⟩ := h
    rfl
  · obtain ⟨a, ns, rfl, hs, hl, k⟩ := h
    refine ⟨_, (pss_cons (ps_set (i := 1) sc_l_pool.nd rfl (.inl rfl) (pe_op (kAdd (K := K)) (pe_op (kAdd (K := K)) (pe_op oMod (pe_callTy cInt (by rfl) B.int b_int (pa_cons (pe_callB (kSum (K := K)) (by rfl) B.sum b_sum (pa_cons (pe_slice (kSl (K := K)) (pv 0) po_none (po_some pe_int)) pa_nil)) pa_nil)) pe_int) (pe_callB (kLen (K := K)) (by rfl) B.len b_len (pa_cons (pv 0) pa_nil))) pe_int))
    (pss_cons (ps_for PassesOwn.never rfl (k_sq (K := K) (pe_slice (kSl (K := K)) (pv 0) po_none (po_some pe_int))) (pg_name (i := 2) sc_l_pool.nd rfl (.inl rfl))
    (pss_one (ps_set (i := 1) sc_l_pool.nd rfl (.inl rfl) (pe_op oMod (pe_callTy cInt (by rfl) B.int b_int (pa_cons (pe_op (kAdd (K := K)) (pe_op (kAdd (K := K)) (pe_op (kMul (K := K)) (pv 1) pe_int) (pe_op oMod (pe_callTy cInt (by rfl) B.int b_int (pa_cons (pv 2) pa_nil)) pe_int)) pe_int) pa_nil)) pe_int))))
    (pss_one (ps_ret (pe_lst (pa_cons (pv 1) (pa_cons pe_int (pa_cons (pe_lc (own := [("_law_cell", 2)]) rfl sc_l_pool.nd (k_sq (K := K) (pe_slice (kSl (K := K)) (pv 0) po_none (po_some pe_int))) (blkOk_by (N := N_l_pool) (sc := defScope s_l_pool) (by decide +kernel)) (fun _ _ _ _ _ => (pg_name (i := 2) sc_l_pool.nd rfl (.inl rfl))) (fun _ _ _ _ _ => (pts_one (pt_cmpR oGe (pe_callB cAbs (by rfl) B.abs b_abs (pa_cons (pv 2) pa_nil)) (pe_op oPow pe_int pe_int) (nomark _)))) (fun _ _ _ _ _ => (pe_callB cAbs (by rfl) B.abs b_abs (pa_cons (pv 2) pa_nil)))) pa_nil)))))))), ?_⟩
    have hlen : Ev (tCB (rLenQ K) (tCons (tVar 0) tNil)) [some (V.ref a), none, none] H (.int (ns.length : Nat)) := fun H1 e1 Q q => ⟨_, rfl, .inl ⟨a, ns.map V.int, rfl, .inl (ex_l e1 hs), by rw [List.length_map]; exact q H1 (Ex.refl _)⟩⟩
    have hsum : Ev (tCB (rSum K) (tCons (tSl (rSlAny K) (tVar 0) tNoPart (tPart (tC (.int 1)))) tNil)) [some (V.ref a), none, none] H (.int (ns.take 1).sum) := fun H1 e1 Q q =>
      (eld_cutS (k := 1) (ev_var rfl) hs (eo_some ev_c)) H1 e1 _ fun p vs H2 hp e2 h2 hx => ⟨p, ns.take 1, rfl, SqL.of (by rw [← hx.ints]; exact h2), q H2 e2⟩
    refine q_asg (ev_add (ev_add (ev_mod (ev_int hsum) ev_c (by decide)) hlen) ev_c) fun H1 e1 => ?_
    refine q_forLD (ds := (ns.take 63).map PyData.int) (eld_cutS (k := 63) (ev_var rfl) (ex_l e1 hs) (eo_some ev_c)) (fun p xs i σ' H' => ∃ (z : Int) (o2 : Option V), σ' = [some (V.ref a), some (.int z), o2] ∧ Ex H H' ∧ H' p = some (.lst xs) ∧ DtA H' ((ns.take 63).map PyData.int) xs) (fun p xs H2 hp e2 h2 hx => ⟨_, none, rfl, e1.trans e2, h2, hx⟩) (fun p xs i σ' H' _ ⟨_, _, _, _, q1, q2⟩ => ⟨q1, q2⟩) (fun p xs i d v σ' H' hd hv q => ?_) fun p xs σ' H' q => ?_
    · obtain ⟨z, o2, rfl, ex, q1, q2⟩ := q
      rw [List.getElem?_map] at hd
      cases hx : (ns.take 63)[i]? with
      | none => rw [hx] at hd; cases hd
      | some x =>
        rw [hx] at hd
        cases hd
        cases (hv : v = .int x)
        refine s_asg (ev_mod (ev_int (ev_add (ev_add (ev_mul (ev_var rfl) ev_c (.inr (by decide))) (ev_mod (ev_int (ev_var rfl)) ev_c (by decide))) ev_c)) ev_c (by decide)) fun H3 e3 => ⟨_, _, rfl, ex.trans e3, e3 _ _ q1, q2.ex e3⟩
    · obtain ⟨z, o2, rfl, ex, q1, q2⟩ := q
      have hcell : ELD (tLc (iSq K (tSl (rSlAny K) (tVar 0) tNoPart (tPart (tC (.int 63))))) (gName 2) (tTest (tOp rGeI (tCB rAbs (tCons (tVar 2) tNil)) (tOp rPowI (tC (.int 10)) (tC (.int 18))))) (tCB rAbs (tCons (tVar 2) tNil)) [2]) [some (V.ref a), some (.int z), o2] H' (((ns.take 63).filter fun x => decide ((10 : Int) ^ 18 ≤ if x < 0 then -x else x)).map fun x => PyData.int (if x < 0 then -x else x)) := by
        refine eld_over (ns.take 63) PyData.int _ _ (eld_cutS (k := 63) (ev_var rfl) (ex_l ex hs) (eo_some ev_c)).es mono_name (by rw [List.length_take]; omega) fun x v H2 hx e2 hv => ?_
        cases (hv : v = .int x)
        exact ⟨Ex.refl _, rfl, et_test (ev_ge (ev_abs (ev_var rfl)) (ev_op (z := .int (10 ^ 18)) ev_c ev_c (rv_I ⟨by decide, by decide, by decide⟩))), fun _ => edI (ev_abs (ev_var rfl))⟩
      refine s_retLst (eap_v (ev_var rfl) (eap_v ev_c (eap_ld hcell eap_nil))) fun ws H2 e2 hw => ?_
      obtain ⟨_, rfl, _, rfl, q, xs, _, rfl, hq, h2, hx, rfl⟩ := hw
      refine ⟨by show 3 ≤ 100000; decide, fun p hp => ?_⟩
      have ll : (((ns.take 63).filter fun x => decide ((10 : Int) ^ 18 ≤ if x < 0 then -x else x)).map fun x => if x < 0 then -x else x).length ≤ 1000 := by
        rw [List.length_map]
        have h1 := List.length_filter_le (fun x : Int => decide ((10 : Int) ^ 18 ≤ if x < 0 then -x else x)) (ns.take 63)
        rw [List.length_take] at h1
        omega
      have e : ((ns.take 63).filter fun x => decide ((10 : Int) ^ 18 ≤ if x < 0 then -x else x)).map (fun x => PyData.int (if x < 0 then -x else x)) = (((ns.take 63).filter fun x => decide ((10 : Int) ^ 18 ≤ if x < 0 then -x else x)).map fun x => if x < 0 then -x else x).map PyData.int := by rw [List.map_map] <;> rfl
      rw [e] at hx
      refine k p q _ (fresh_back (ex.trans e2) hp) (fresh_back ex hq) ((ex.trans e2).trans (Ex.new hp)) ⟨z, 0, _, upd_same, ?_, ll⟩
      rw [← hx.ints]
      exact (Ex.new hp) _ _ h2
theorem ok_l_lot (F : Fun K "_law_lot" "_law_lot" s_l_lot f fd) (B : Bl mg) (c_l_draw : Cal P w K mg base "_law_draw" 1 ["_law_pool_here", "_law_many"] spDraw) : FnOk P w K mg base CX0 2 f fd ["_law_pool_here", "_law_web_here"] spLot := by
  refine F.ok sc_l_lot (fun vs H Q E h => ?_) (fun cdv A outer s H vs Q E hr h => ?_)
  · obtain ⟨p, c, a, W, rfl, _⟩ := h
    rfl
  · obtain ⟨p, c, a, W, rfl, hP, hW, wok, ap, ac, k⟩ := h
    have hu64 := hr.units
    refine ⟨_, (pss_cons (ps_set (i := 2) sc_l_lot.nd rfl (.inr rfl) (pe_ix (kIx (K := K)) (pe_lst (pa_cons pe_int (pa_cons pe_int (pa_cons pe_int pa_nil)))) (pe_callC c_l_draw (hr.mono (by decide)) (by rfl) (pa_cons (pv 0) (pa_cons pe_int pa_nil))) (fun _ _ => rfl)))
    (pss_one (ps_ret (pe_callTy (kTup (K := K)) (by rfl) B.tuple b_tuple (pa_cons (pe_lc (own := [("_law_road", 3)]) rfl sc_l_lot.nd (pi_range1 (by rfl) B.range (pa_cons (pe_callB (kLen (K := K)) (by rfl) B.len b_len (pa_cons (pe_ix (kIx (K := K)) (pv 1) pe_int (fun _ _ => rfl)) pa_nil)) pa_nil)) (blkOk_by (N := N_l_lot) (sc := defScope s_l_lot) (by decide +kernel)) (fun _ _ _ _ _ => (pg_name (i := 3) sc_l_lot.nd rfl (.inl rfl))) (fun _ _ _ _ _ => (pts_one (pt_cmpR (kEq (K := K) hu64) (pe_callC c_l_draw (hr.mono (by decide)) (by rfl) (pa_cons (pv 0) (pa_cons (pv 2) pa_nil))) pe_int (nomark _)))) (fun _ _ _ _ _ => (pv 3))) pa_nil))))), ?_⟩
    have h1 : EF (tOp (rIx K) (tLst (tCons (tC (.int 8)) (tCons (tC (.int 3)) (tCons (tC (.int 2)) tNil)))) (tCall spDraw [] E0 (tCons (tVar 0) (tCons (tC (.int 3)) tNil)))) [some (V.ref p), some (V.ref a), none, none] H fun v H' => ∃ d : Nat, ([V.int 8, V.int 3, V.int 2] : List V)[d]? = some v ∧ Dn p c H H' :=
      ef_ixL (m := 3) (fun Q q => ⟨by show 3 ≤ sizeLine; decide, fun b hb => q b _ (Dn.of hP (Ex.new hb)) upd_same (hP.ne_new hb).1 (hP.ne_new hb).2⟩) (fun H1 dn => ef_draw (ev_var rfl) ev_c (by decide) (by decide) dn.at_) (by decide)
    refine q_asgF h1 fun v H1 ⟨d, hd, dn⟩ => ?_
    obtain ⟨m, rfl, hm, hm2⟩ : ∃ m : Int, v = .int m ∧ 0 < m ∧ m ≤ 100000 := by
      match d, hd with
      | 0, hd => cases hd; exact ⟨8, rfl, by decide, by decide⟩
      | 1, hd => cases hd; exact ⟨3, rfl, by decide, by decide⟩
      | 2, hd => cases hd; exact ⟨2, rfl, by decide, by decide⟩
      | _ + 3, hd => simp at hd
    have hW1 : WebAt H1 a W := dn.fk.web hP.so (fun z => z.elim ap ac) hW
    have r7 := wok.r7
    show tRet _ _ [some (V.ref p), some (V.ref a), some (.int m), none] _
    refine s_retF (ef_tuple (p := p) (c := c) (R := fun ds => ∃ lot : List Nat, ds = lot.map iN) (EF.mono (ef_rng (n := W.roads.length) (fun i ds => ∃ lot : List Nat, ds = lot.map iN) ⟨[], rfl⟩ dn.at_ (EF.mono (ef_ev (ev_many hW1 (ev_var rfl))) fun v H' ⟨e, ex⟩ => ⟨e, Dn.of dn.at_ ex⟩) (by omega) (fun _ => rfl) fun i ds H2 hi dn2 ⟨lot, hlot⟩ Q1 Q0 h1 h0 => ?_) fun v H' ⟨q, xs, ds, a1, a2, a3, a4, a5, a6⟩ => ⟨q, xs, ds, a1, a2, a3, a4, a5, a6⟩)) fun v H' ⟨ds, hv, ⟨lot, hlot⟩, dn2⟩ => k v H' lot (dn.trans dn2) (by rw [hlot] at hv; exact hv)
    refine (ef_draw (p := p) (c := c) (m := m) (ev_var rfl) (ev_var rfl) hm hm2 dn2.at_) _ fun v H3 ⟨d, e, hd, dn3⟩ => ?_
    subst e
    have q := (ev_eqI (K := K) (ta := tC (.int (d : Int))) (tb := tC (.int 0)) (σ := [some (V.ref p), some (V.ref a), some (.int m), some (.int (i : Int))]) (H := H3) ev_c ev_c) H3 (Ex.refl _)
    refine q _ fun H4 e4 => ⟨_, rfl, ?_⟩
    cases hb : decide ((d : Int) = 0) with
    | true => exact ⟨_, rfl, h1 _ H4 (.int (i : Int)) rfl ⟨lot ++ [i], by rw [hlot, List.map_append] <;> rfl⟩ (dn3.ex e4)⟩
    | false => exact h0 H4 ⟨lot, hlot⟩ (dn3.ex e4)
theorem ok_l_letter (F : Fun K "_law_letter" "_law_letter" s_l_letter f fd) (B : Bl mg) (c_l_draw : Cal P w K mg base "_law_draw" 1 ["_law_pool_here", "_law_many"] spDraw) (c_l_next : Cal P w K mg base "_law_next" 1 ["_law_web_here", "_law_road"] spNext) :
    FnOk P w K mg base CX0 2 f fd ["_law_pool_here", "_law_web_here", "_law_most", "_law_span"] spLetter := by
  refine F.ok sc_l_letter (fun vs H Q E h => ?_) (fun cdv A outer s H vs Q E hr h => ?_)
  · obtain ⟨p, c, a, W, rfl, _⟩ := h
    rfl
  · obtain ⟨p, c, a, W, rfl, hP, hW, wok, ap, ac, k⟩ := h
    have hu64 := hr.units
    refine ⟨_, (pss_cons (ps_set (i := 4) sc_l_letter.nd rfl (.inl rfl) (pe_tup (pa_cons (pe_callC c_l_draw (hr.mono (by decide)) (by rfl) (pa_cons (pv 0) (pa_cons (pe_callB (kLen (K := K)) (by rfl) B.len b_len (pa_cons (pe_ix (kIx (K := K)) (pv 1) pe_int (fun _ _ => rfl)) pa_nil)) pa_nil))) pa_nil)))
    (pss_cons (ps_for PassesOwn.never rfl (pi_range1 (by rfl) B.range (pa_cons (pe_callC c_l_draw (hr.mono (by decide)) (by rfl) (pa_cons (pv 0) (pa_cons (pv 2) pa_nil))) pa_nil)) (pg_name (i := 5) sc_l_letter.nd rfl (.inl rfl))
    (pss_cons (ps_set (i := 6) sc_l_letter.nd rfl (.inl rfl) (pe_callC c_l_next (hr.mono (by decide)) (by rfl) (pa_cons (pv 1) (pa_cons (pe_ix (kIx (K := K)) (pv 4) (pe_un oNeg pe_int) (fun _ _ => rfl)) pa_nil))))
      (pss_one (ps_if (pt_cmpR oGt (pe_callB (kLen (K := K)) (by rfl) B.len b_len (pa_cons (pv 6) pa_nil)) pe_int (nomark _))
      (pss_one (ps_set (i := 4) sc_l_letter.nd rfl (.inl rfl) (pe_op (kAdd (K := K)) (pv 4) (pe_tup (pa_cons (pe_ix (kIx (K := K)) (pv 6) (pe_callC c_l_draw (hr.mono (by decide)) (by rfl) (pa_cons (pv 0) (pa_cons (pe_callB (kLen (K := K)) (by rfl) B.len b_len (pa_cons (pv 6) pa_nil)) pa_nil))) (fun _ _ => rfl)) pa_nil)))))
      pss_nil))))
    (pss_one (ps_ret (pe_tup (pa_cons (pv 4) (pa_cons (pe_op (kAdd (K := K)) pe_int (pe_callC c_l_draw (hr.mono (by decide)) (by rfl) (pa_cons (pv 0) (pa_cons (pv 3) pa_nil)))) pa_nil))))))), ?_⟩
    have r1 := wok.r1
    have r7 := wok.r7
    have hWd : ∀ {H'}, Dn p c H H' → WebAt H' a W := fun dn => dn.fk.web hP.so (fun z => z.elim ap ac) hW
    refine q_asgF (ef_tup1 (p := p) (c := c) (R := fun d => ∃ n : Nat, d = .int (n : Int) ∧ n < W.roads.length) (EF.mono (ef_draw (p := p) (c := c) (m := ((W.roads.length : Nat) : Int)) (ev_var rfl) (ev_many hW (ev_var rfl)) (by omega) (by omega) hP) fun v H' ⟨d, e, hd, dn⟩ => ⟨.int (d : Int), e, ⟨d, rfl, by omega⟩, dn⟩)) fun wv H1 ⟨d, hwv, ⟨n, e, hn⟩, dn1⟩ => ?_
    subst e
    have hwv : Dt H1 (dWay [n]) wv := hwv
    have wo : WayOk W [n] := ⟨Nat.le_refl _, by show 1 ≤ 8; decide, fun x hx => by rw [List.mem_singleton.mp hx]; exact hn, fun i hi => by simp at hi⟩
    refine q_forRF (G := fun m H' => m < 4 ∧ Dn p c H1 H') (EF.mono (ef_draw (p := p) (c := c) (m := 4) (ev_var rfl) (ev_var rfl) (by decide) (by decide) dn1.at_) fun v H' ⟨d, e, hd, dn⟩ => ⟨d, e, by omega, by omega, dn⟩)
      (fun m i σ' H' => ∃ wv w o5 o6, σ' = [some (V.ref p), some (V.ref a), some (.int 4), some (.int 8), some wv, o5, o6] ∧ Dt H' (dWay w) wv ∧ WayOk W w ∧ w.length ≤ 1 + i ∧ m < 4 ∧ i ≤ m ∧ Dn p c H H') (fun m H2 ⟨hm, dn⟩ => ⟨wv, [n], none, none, rfl, hwv.tk (dn.tk dn1.at_), wo, Nat.le_refl _, hm, Nat.zero_le _, dn1.trans dn⟩) (fun m i σ' H2 hi q => ?_) fun m σ' H2 q => ?_
    · obtain ⟨wv, w, o5, o6, rfl, hwv, wo, wl, hm, _, dn⟩ := q
      have l1 := wo.l1
      have hlast : w.getLastD 0 < W.roads.length := by
        have : w.getLastD 0 ∈ w := by
          rw [List.getLastD_eq_getLast?, List.getLast?_eq_some_getLast (by intro z; rw [z] at l1; simp at l1)]
          exact List.getLast_mem _
        exact wo.roads _ this
      show tSeq _ _ _ [some (V.ref p), some (V.ref a), some (.int 4), some (.int 8), some wv, some (.int (i : Int)), o6] _
      have hW2 := hWd dn
      refine q_call (eap_v (ev_var rfl) (eap_v (ED.ev (ed_ix (ED.es (ed_var rfl hwv)) (ev_neg ev_c) (ix_last (x := 0) (fun z => by rw [z] at l1; simp at l1)))) eap_nil)) fun ws H3 e3 hp => ?_
      obtain ⟨_, rfl, _, rfl, rfl⟩ := hp
      refine ⟨a, W, w.getLastD 0, rfl, hW2.ex e3, hlast, by omega, fun b H4 hb e4 h4 => ?_⟩
      have dn4 := dn.ex (e3.trans e4)
      have hwv4 := hwv.ex (e3.trans e4)
      obtain ⟨bp, bc⟩ := (dn.ex e3).at_.ne_new hb
      show tIfS _ _ _ _ [some (V.ref p), some (V.ref a), some (.int 4), some (.int 8), some wv, some (.int (i : Int)), some (V.ref b)] _
      refine s_when (et_test (ev_gt (ev_lenL (ev_var rfl) h4) ev_c)) (fun hz H5 e5 => ?_) (fun hz H5 e5 => ?_)
      · have hz := of_decide_eq_true hz
        rw [List.length_map] at hz
        have h5 := e5 _ _ h4
        have dn5 := dn4.ex e5
        have nl : (nexts W (w.getLastD 0)).length ≤ 7 := by
          have := List.length_filter_le (fun o => decide ((W.roads.getD o (0, 0)).1 = (W.roads.getD (w.getLastD 0) (0, 0)).2)) (List.range W.roads.length)
          rw [List.length_range] at this
          unfold nexts
          omega
        refine s_asgF (ef_catT (p := p) (c := c) (R := fun d => ∃ n : Nat, d = .int (n : Int) ∧ n ∈ nexts W (w.getLastD 0)) rfl (hwv4.ex e5) dn5.at_ (by rw [List.length_map]; omega) (EF.mono (ef_ixL (p := p) (c := c) (m := (((nexts W (w.getLastD 0)).length : Nat) : Int)) (fun Q q => ⟨_, rfl, q b H5 (Dn.refl dn5.at_) h5 bp bc⟩) (fun H6 dn6 => ef_draw (ev_var rfl) (ev_is (ev_lenL (ev_var rfl) (dn6.fr _ _ bp bc h5)) (by rw [List.length_map])) (by omega) (by omega) dn6.at_) (by rw [List.length_map]; exact Int.le_refl _)) fun v H' ⟨d, hd, dn⟩ => ?_)) fun v H6 ⟨d, hv, ⟨n', e, hn'⟩, dn6⟩ => ?_
        · rw [List.getElem?_map] at hd
          cases hx : (nexts W (w.getLastD 0))[d]? with
          | none => rw [hx] at hd; cases hd
          | some n' =>
            rw [hx] at hd
            cases hd
            exact ⟨.int (n' : Int), rfl, ⟨n', rfl, List.mem_of_getElem? hx⟩, dn⟩
        · subst e
          refine ⟨v, w ++ [n'], _, _, rfl, ?_, way_snoc wo hn' (by omega), by rw [List.length_append]; show _ + 1 ≤ _; omega, hm, by omega, dn5.trans dn6⟩
          unfold dWay
          rw [List.map_append]
          exact hv
      · exact ⟨wv, w, _, _, rfl, hwv4.ex e5, wo, by omega, hm, by omega, dn4.ex e5⟩
    · obtain ⟨wv, w, o5, o6, rfl, hwv, wo, wl, hm, _, dn⟩ := q
      have hfin : EF (tTup (tCons (tVar 4) (tCons (tOp (rAddA K) (tC (.int 1)) (tCall spDraw [] E0 (tCons (tVar 0) (tCons (tVar 3) tNil)))) tNil))) [some (V.ref p), some (V.ref a), some (.int 4), some (.int 8), some wv, o5, o6] H2 fun v H' => ∃ l : Let, LetOk W l ∧ Dt H' (dLet l) v ∧ Dn p c H2 H' := fun Q hQ =>
        ⟨wv, rfl, (ef_addC (ef_draw (p := p) (c := c) (m := 8) (ev_var rfl) (ev_var rfl) (by decide) (by decide) dn.at_)) _ fun v H3 ⟨d, e, hd, dn3⟩ => ⟨by show 2 ≤ sizeLine; decide, fun b hb => hQ _ _ ⟨(w, 1 + (d : Int)), ⟨wo, by show w.length ≤ 4; omega, by show 1 ≤ 1 + (d : Int); omega, by show 1 + (d : Int) ≤ 8; omega⟩, dt_tup upd_same ⟨wv, _, rfl, (hwv.tk (dn3.tk dn.at_)).ex (Ex.new hb), v, _, rfl, e, rfl⟩, dn3.ex (Ex.new hb)⟩⟩⟩
      exact s_retF hfin fun v H' ⟨l, lo, hv, dn3⟩ => k v H' l (dn.trans dn3) lo hv
end
end Z
/-! Lb: _law_web. -/
namespace Z
open PySem PySem.Spec PyProof.Rows L2 Evl

def dPr (p : Int × Int) : PyData := .tuple [.int p.1, .int p.2]
def EndOk (h : Int) (p : Int × Int) : Prop := 0 ≤ p.1 ∧ p.1 < h ∧ 0 ≤ p.2 ∧ p.2 < h ∧ p.1 ≠ p.2
theorem others_len {n b : Nat} (hb : b < n) : ((List.range n).filter fun k : Nat => !decide ((k : Int) = (b : Int))).length = n - 1 := by
  have e : ((List.range n).filter fun k : Nat => !decide ((k : Int) = (b : Int))) = (List.range n).erase b := by
    rw [List.nodup_range.erase_eq_filter]
    congr 1
    funext k
    by_cases h : k = b
    · simp [h]
    · have h2 : ¬ (k : Int) = (b : Int) := by omega
      simp [h, h2]
  rw [e, List.length_erase_of_mem (List.mem_range.mpr hb), List.length_range]
section
variable {K : PySem.W.Frag} {p c : Addr} {σ : L2.St} {H H' : Hp} {ta tb te : TE} {D : Ends} {tz : TS} {G : V → Hp → Prop}
/-- [k for k in range(n) if k != b][draw] -/
theorem ef_other {n b : Nat} (hP : PoolAt H p c) (h0 : σ[0]? = some (some (.ref p))) (h6 : σ[6]? = some (some (.int (n : Int)))) (h9 : σ[9]? = some (some (.int (b : Int)))) (hl : 10 < σ.length) (hb : b < n) (hn : 2 ≤ n) (hn2 : n ≤ 1000)
    (hdr : ∀ H1, Dn p c H H1 → EF tb σ H1 fun v H' => ∃ d : Nat, v = .int (d : Int) ∧ (d : Int) < ((n - 1 : Nat) : Int) ∧ Dn p c H1 H') :
    EF (tOp (rIx K) (tLc (iRng1 (tCons (tVar 6) tNil)) (gName 10) (tTest (tOp (rNeA K) (tVar 10) (tVar 9))) (tVar 10) [10]) tb) σ H fun v H' => ∃ e : Nat, v = .int (e : Int) ∧ e < n ∧ e ≠ b ∧ Dn p c H H' := by
  have hL : ELD (tLc (iRng1 (tCons (tVar 6) tNil)) (gName 10) (tTest (tOp (rNeA K) (tVar 10) (tVar 9))) (tVar 10) [10]) σ H (((List.range n).filter fun k : Nat => !decide ((k : Int) = (b : Int))).map iN) :=
    eld_rng (fun k : Nat => !decide ((k : Int) = (b : Int))) iN (ea_cons (ev_var h6) ea_nil) (by omega) fun i H1 hi e1 => ⟨by simp [wipe], et_test (ev_neI (ev_var (by simp [wipe, hl])) (ev_var (by simp [wipe, h9]))), fun _ => edI (ev_var (by simp [wipe, hl]))⟩
  refine EF.mono (ef_ixL (p := p) (c := c) (m := ((n - 1 : Nat) : Int)) (xs := ((List.range n).filter fun k : Nat => !decide ((k : Int) = (b : Int))).map vNat) (fun Q q => hL H (Ex.refl _) Q fun a vs H1 ha e1 h1 hx => ?_) hdr (by rw [List.length_map, others_len hb]; exact Int.le_refl _)) fun v H' ⟨d, hd, dn⟩ => ?_
  · rw [dta_nats hx] at h1
    exact q a H1 (Dn.of hP e1) h1 (hP.ne_new ha).1 (hP.ne_new ha).2
  · rw [List.getElem?_map] at hd
    cases hx : ((List.range n).filter fun k : Nat => !decide ((k : Int) = (b : Int)))[d]? with
    | none => rw [hx] at hd; cases hd
    | some e =>
      rw [hx] at hd
      cases hd
      have hm := List.mem_filter.mp (List.mem_of_getElem? hx)
      refine ⟨e, rfl, List.mem_range.mp hm.1, fun z => ?_, dn⟩
      have := hm.2
      rw [z] at this
      simp at this
/-- (i, draw) -/
theorem ef_pair {i : Nat} {b : Int} {R : Int → Prop} (hi : σ[i]? = some (some (.int b))) (h : EF tb σ H fun v H' => ∃ e : Int, v = .int e ∧ R e ∧ Dn p c H H') : EF (tTup (tCons (tVar i) (tCons tb tNil))) σ H fun v H' => ∃ e : Int, Dt H' (dPr (b, e)) v ∧ R e ∧ Dn p c H H' := fun Q hQ =>
  ⟨_, hi, h _ fun v H1 ⟨e, ev, hr, dn⟩ => by
    subst ev
    exact ⟨by show 2 ≤ sizeLine; decide, fun q hq => hQ _ _ ⟨e, dt_tup upd_same ⟨_, _, rfl, rfl, _, _, rfl, rfl, rfl⟩, hr, dn.ex (Ex.new hq)⟩⟩⟩
/-- l.append(..) with draws -/
theorem s_appF {l : Addr} {i : Nat} {xs : List V} (hi : σ[i]? = some (some (.ref l))) (hl : H l = some (.lst xs)) (h : EF te σ H G) (hk : ∀ v H', G v H' → H' l = some (.lst xs)) (hz : xs.length < 100000) (k : ∀ v H', G v H' → D.nx σ (upd H' l (.lst (xs ++ [v])))) :
    tDrop (tBM K "list" rAppend (tVar i) (tCons te tNil)) D σ H := ⟨_, hi, .inl ⟨rfl, xs, sq_of hl⟩, h _ fun v H' g => ⟨l, xs, v, rfl, rfl, hk v H' g, sz_lt hz, k v H' g⟩⟩
end
structure RdAt (H : Hp) (a : Addr) (h : Int) (rl : List (Int × Int)) : Prop where
  at_ : ∃ xs, H a = some (.lst xs) ∧ DtA H (rl.map dPr) xs
  ends : ∀ q ∈ rl, EndOk h q
theorem RdAt.len {H : Hp} {a : Addr} {h : Int} {rl : List (Int × Int)} (r : RdAt H a h rl) {xs : List V} (e : H a = some (.lst xs)) : xs.length = rl.length ∧ DtA H (rl.map dPr) xs := by
  obtain ⟨ys, h1, h2⟩ := r.at_
  rw [h1] at e
  cases e
  exact ⟨by rw [h2.len, List.length_map], h2⟩
def spWeb : Sp := fun vs H Q _ => ∃ (p c rm tm : Addr), vs = [.ref p, .int 6, .ref rm, .ref tm] ∧ PoolAt H p c ∧ H rm = some (.lst [.int 1, .int 1, .int 2, .int 3]) ∧ H tm = some (.lst [.int 1, .int 1, .int 2, .int 3]) ∧ rm ≠ p ∧ rm ≠ c ∧ tm ≠ p ∧ tm ≠ c ∧
  ∀ a W H', H a = none → Dn p c H H' → WebAt H' a W → WebOk W → Q (.ref a) H'
abbrev s_l_web : Stmt := top 39
abbrev N_l_web : List Str := ["_law_pool_here", "_law_size", "_law_rooms", "_law_times", "_law_many", "_law_kind", "_law_houses", "_law_roads", "_law_first_here", "_law_begin", "_law_k", "_law_road"]
theorem sc_l_web : FnScope N_l_web ["_law_pool_here", "_law_size", "_law_rooms", "_law_times"] (defScope s_l_web) := ⟨rfl, rfl, rfl, by decide +kernel, rfl, by decide +kernel, by decide +kernel⟩
section
variable {P : Program} {w : World} {K : PySem.W.Frag} {mg : Str → Option Value} {base : Heap} {f : Addr} {fd : FuncData}
theorem ok_l_web (F : Fun K "_law_web" "_law_web" s_l_web f fd) (B : Bl mg) (c_l_draw : Cal P w K mg base "_law_draw" 1 ["_law_pool_here", "_law_many"] spDraw) : FnOk P w K mg base CX0 2 f fd ["_law_pool_here", "_law_size", "_law_rooms", "_law_times"] spWeb := by
  refine F.ok sc_l_web (fun vs H Q E h => ?_) (fun cdv A outer s H vs Q E hr h => ?_)
  · obtain ⟨p, c, rm, tm, rfl, _⟩ := h
    rfl
  · obtain ⟨p, c, rm, tm, rfl, hP, hrm, htm, rp, rc, tp, tc, k⟩ := h
    have hu64 := hr.units
    refine ⟨_, (pss_cons (ps_set (i := 4) sc_l_web.nd rfl (.inr rfl) (pe_op (kAdd (K := K)) pe_int (pe_callC c_l_draw (hr.mono (by decide)) (by rfl) (pa_cons (pv 0) (pa_cons (pe_op oSub (pv 1) pe_int) pa_nil)))))
    (pss_cons (ps_set (i := 5) sc_l_web.nd rfl (.inl rfl) (pe_callC c_l_draw (hr.mono (by decide)) (by rfl) (pa_cons (pv 0) (pa_cons pe_int pa_nil))))
    (pss_cons (ps_set (i := 6) sc_l_web.nd rfl (.inl rfl) (pe_op (kAdd (K := K)) (pv 4) pe_int))
    (pss_cons (ps_setLc (i := 7) (own := [("_law_k", 10)]) rfl sc_l_web.nd rfl rfl (sw_true rfl rfl rfl (by decide +kernel)) (pi_range1 (by rfl) B.range (pa_cons (pv 4) pa_nil)) (blkOk_by (N := N_l_web) (sc := defScope s_l_web) (by decide +kernel)) (fun _ _ _ _ _ => (pg_name (i := 10) sc_l_web.nd rfl (.inl rfl))) (fun _ _ _ _ _ => pts_nil) (fun _ _ _ _ _ => (pe_tup (pa_cons (pv 10) (pa_cons (pe_op (kAdd (K := K)) (pv 10) pe_int) pa_nil)))))
    (pss_cut (ps_if (pt_cmpR (kEq (K := K) hu64) (pv 5) pe_int (nomark _))
    (pss_cons (ps_set (i := 9) sc_l_web.nd rfl (.inr rfl) (pe_callC c_l_draw (hr.mono (by decide)) (by rfl) (pa_cons (pv 0) (pa_cons (pv 4) pa_nil))))
      (pss_one (ps_expr (pe_bm PySem.F.plainAttrs_list PySem.F.slot_list_append PySem.F.type_list_append mt_append (pv 7) (pa_cons (pe_tup (pa_cons (pv 9) (pa_cons (pe_ix (kIx (K := K)) (pe_lc (own := [("_law_k", 10)]) rfl sc_l_web.nd (pi_range1 (by rfl) B.range (pa_cons (pv 6) pa_nil)) (blkOk_by (N := N_l_web) (sc := defScope s_l_web) (by decide +kernel)) (fun _ _ _ _ _ => (pg_name (i := 10) sc_l_web.nd rfl (.inl rfl))) (fun _ _ _ _ _ => (pts_one (pt_cmpR (kNe (K := K) hu64) (pv 10) (pv 9) (nomark _)))) (fun _ _ _ _ _ => (pv 10))) (pe_callC c_l_draw (hr.mono (by decide)) (by rfl) (pa_cons (pv 0) (pa_cons (pv 4) pa_nil))) (fun _ _ => rfl)) pa_nil))) pa_nil)))))
    pss_nil)
    (pss_cut (ps_if (pt_cmpR (kEq (K := K) hu64) (pv 5) pe_int (nomark _))
    (pss_cons (ps_set (i := 6) sc_l_web.nd rfl (.inl rfl) (pv 4))
      (pss_one (ps_setLc (i := 7) (own := [("_law_k", 10)]) rfl sc_l_web.nd rfl rfl (sw_true rfl rfl rfl (by decide +kernel)) (pi_range1 (by rfl) B.range (pa_cons (pv 4) pa_nil)) (blkOk_by (N := N_l_web) (sc := defScope s_l_web) (by decide +kernel)) (fun _ _ _ _ _ => (pg_name (i := 10) sc_l_web.nd rfl (.inl rfl))) (fun _ _ _ _ _ => pts_nil) (fun _ _ _ _ _ => (pe_tup (pa_cons (pv 10) (pa_cons (pe_op oMod (pe_callTy cInt (by rfl) B.int b_int (pa_cons (pe_op (kAdd (K := K)) (pv 10) pe_int) pa_nil)) (pv 4)) pa_nil)))))))
    pss_nil)
    (pss_cut (ps_if (pt_cmpR oGt (pv 5) pe_int (nomark _))
    (pss_cons (ps_set (i := 6) sc_l_web.nd rfl (.inl rfl) (pe_op (kAdd (K := K)) pe_int (pe_callC c_l_draw (hr.mono (by decide)) (by rfl) (pa_cons (pv 0) (pa_cons (pv 4) pa_nil)))))
      (pss_cons (ps_set (i := 7) sc_l_web.nd rfl (.inl rfl) (pe_lst pa_nil))
      (pss_one (ps_for PassesOwn.never rfl (pi_range1 (by rfl) B.range (pa_cons (pv 4) pa_nil)) (pg_name (i := 10) sc_l_web.nd rfl (.inl rfl))
      (pss_cons (ps_set (i := 9) sc_l_web.nd rfl (.inr rfl) (pe_callC c_l_draw (hr.mono (by decide)) (by rfl) (pa_cons (pv 0) (pa_cons (pv 6) pa_nil))))
        (pss_one (ps_expr (pe_bm PySem.F.plainAttrs_list PySem.F.slot_list_append PySem.F.type_list_append mt_append (pv 7) (pa_cons (pe_tup (pa_cons (pv 9) (pa_cons (pe_ix (kIx (K := K)) (pe_lc (own := [("_law_k", 10)]) rfl sc_l_web.nd (pi_range1 (by rfl) B.range (pa_cons (pv 6) pa_nil)) (blkOk_by (N := N_l_web) (sc := defScope s_l_web) (by decide +kernel)) (fun _ _ _ _ _ => (pg_name (i := 10) sc_l_web.nd rfl (.inl rfl))) (fun _ _ _ _ _ => (pts_one (pt_cmpR (kNe (K := K) hu64) (pv 10) (pv 9) (nomark _)))) (fun _ _ _ _ _ => (pv 10))) (pe_callC c_l_draw (hr.mono (by decide)) (by rfl) (pa_cons (pv 0) (pa_cons (pe_op oSub (pv 6) pe_int) pa_nil))) (fun _ _ => rfl)) pa_nil))) pa_nil)))))))))
    pss_nil)
    (pss_cons (ps_set (i := 8) sc_l_web.nd rfl (.inl rfl) (pe_callTy (kTup (K := K)) (by rfl) B.tuple b_tuple (pa_cons (pe_lc (own := [("_law_road", 11)]) rfl sc_l_web.nd (k_sq (K := K) (pv 7)) (blkOk_by (N := N_l_web) (sc := defScope s_l_web) (by decide +kernel)) (fun _ _ _ _ _ => (pg_name (i := 11) sc_l_web.nd rfl (.inl rfl))) (fun _ _ _ _ _ => pts_nil) (fun _ _ _ _ _ => (pe_ix (kIx (K := K)) (pv 2) (pe_callC c_l_draw (hr.mono (by decide)) (by rfl) (pa_cons (pv 0) (pa_cons (pe_callB (kLen (K := K)) (by rfl) B.len b_len (pa_cons (pv 2) pa_nil)) pa_nil))) (fun _ _ => rfl)))) pa_nil)))
    (pss_one (ps_ret (pe_lst (pa_cons (pv 6) (pa_cons (pe_callTy (kTup (K := K)) (by rfl) B.tuple b_tuple (pa_cons (pv 7) pa_nil)) (pa_cons (pv 8) (pa_cons (pe_callTy (kTup (K := K)) (by rfl) B.tuple b_tuple (pa_cons (pe_lc (own := [("_law_road", 11)]) rfl sc_l_web.nd (k_sq (K := K) (pv 7)) (blkOk_by (N := N_l_web) (sc := defScope s_l_web) (by decide +kernel)) (fun _ _ _ _ _ => (pg_name (i := 11) sc_l_web.nd rfl (.inl rfl))) (fun _ _ _ _ _ => pts_nil) (fun _ _ _ _ _ => (pe_ix (kIx (K := K)) (pv 3) (pe_callC c_l_draw (hr.mono (by decide)) (by rfl) (pa_cons (pv 0) (pa_cons (pe_callB (kLen (K := K)) (by rfl) B.len b_len (pa_cons (pv 3) pa_nil)) pa_nil))) (fun _ _ => rfl)))) pa_nil)) pa_nil))))))))))))))), ?_⟩
    refine q_asgF (ef_addC (ef_draw (p := p) (c := c) (m := 6 - 1) (ev_var rfl) (ev_sub (ev_var rfl) ev_c) (by decide) (by decide) hP)) fun v H1 ⟨d0, e, hd0, dn1⟩ => ?_
    obtain ⟨many, em, hm2, hm6⟩ : ∃ many : Nat, 2 + (d0 : Int) = (many : Int) ∧ 2 ≤ many ∧ many ≤ 6 := ⟨2 + d0, by omega, by omega, by omega⟩
    rw [em] at e
    subst e
    clear em hd0
    refine q_asgF (ef_draw (p := p) (c := c) (m := 5) (ev_var rfl) ev_c (by decide) (by decide) dn1.at_) fun v H2 ⟨kind, e, hkind, dn2⟩ => ?_
    subst e
    have dn2 := dn1.trans dn2
    refine q_asg (ev_is (ev_add (ev_var rfl) ev_c) (show V.int ((many : Int) + 1) = V.int ((many + 1 : Nat) : Int) from congrArg V.int (by omega))) fun H3 e3 => ?_
    have dn3 := dn2.ex e3
    clear dn1 dn2 e3
    show tSeq _ _ _ [some (V.ref p), some (.int 6), some (V.ref rm), some (V.ref tm), some (.int (many : Int)), some (.int (kind : Int)), some (.int ((many + 1 : Nat) : Int)), none, none, none, none, none] _
    refine q_asgLD (ELD.is (eld_rng (n := many) (fun _ => true) (fun i => dPr ((i : Int), (i : Int) + 1)) (ea_cons (ev_var rfl) ea_nil) (by omega) fun i H4 hi e4 => ⟨rfl, fun _ _ _ q => q _ (Ex.refl _), fun _ => ed_tup (ead_cons (edI (ev_var rfl)) (ead_cons (edI (ev_add (ev_var rfl) ev_c)) ead_nil)) (by show 2 ≤ 100000; decide)⟩) (ds' := ((List.range many).map fun i : Nat => ((i : Int), (i : Int) + 1)).map dPr) (by rw [List.filter_eq_self.mpr (fun _ _ => rfl), List.map_map] <;> rfl)) fun ra xs H4 hra e4 h4 hx4 => ?_
    have ra0 : H ra = none := by
      cases z : H ra with
      | none => rfl
      | some u =>
        obtain ⟨a, b⟩ := dn3.at_.ne_new hra
        rw [dn3.fr ra u a b z] at hra
        cases hra
    have dn4 := dn3.ex e4
    have rd4 : RdAt H4 ra ((many + 1 : Nat) : Int) ((List.range many).map fun i : Nat => ((i : Int), (i : Int) + 1)) := ⟨⟨xs, h4, hx4⟩, fun q hq => by
      obtain ⟨i, hi, rfl⟩ := List.mem_map.mp hq
      have := List.mem_range.mp hi
      exact ⟨by show (0 : Int) ≤ (i : Int); omega, by show (i : Int) < _; omega, by show (0 : Int) ≤ (i : Int) + 1; omega, by show (i : Int) + 1 < _; omega, by show (i : Int) ≠ (i : Int) + 1; omega⟩⟩
    clear h4 hx4 dn3 e4 hra
    -- the kinds
    refine q_cut (M := fun σ' H' => ∃ (h : Nat) (ra : Addr) (rl : List (Int × Int)) (o9 : Option V), σ' = [some (V.ref p), some (.int 6), some (V.ref rm), some (V.ref tm), some (.int (many : Int)), some (.int (kind : Int)), some (.int (h : Int)), some (V.ref ra), none, o9, none, none] ∧ Dn p c H H' ∧ H ra = none ∧ RdAt H' ra (h : Int) rl ∧ 2 ≤ h ∧ h ≤ 12 ∧ 1 ≤ rl.length ∧ rl.length ≤ 7) ?_ ?_
    · refine s_when (et_test (ev_eqI (ev_var rfl) ev_c)) (fun hb H5 e5 => ?_) (fun hb H5 e5 => ?_)
      · have dn5 := dn4.ex e5
        obtain ⟨xs, h4, hx4⟩ := rd4.at_
        have h5 := e5 _ _ h4
        obtain ⟨rap, rac⟩ := hP.ne_new ra0
        refine q_asgF (ef_draw (p := p) (c := c) (m := (many : Int)) (ev_var rfl) (ev_var rfl) (by omega) (by omega) dn5.at_) fun v H6 ⟨b, e, hbl, dn6⟩ => ?_
        subst e
        have dn06 := dn5.trans dn6
        have h6 := dn6.fr _ _ rap rac h5
        have hx6 := (hx4.ex e5).tk (dn6.tk dn5.at_)
        show tDrop _ _ [some (V.ref p), some (.int 6), some (V.ref rm), some (V.ref tm), some (.int (many : Int)), some (.int (kind : Int)), some (.int ((many + 1 : Nat) : Int)), some (V.ref ra), none, some (.int (b : Int)), none, none] _
        have ho := ef_other (K := K) (p := p) (c := c) (n := many + 1) (b := b) (σ := [some (V.ref p), some (.int 6), some (V.ref rm), some (V.ref tm), some (.int (many : Int)), some (.int (kind : Int)), some (.int ((many + 1 : Nat) : Int)), some (V.ref ra), none, some (.int (b : Int)), none, none]) (tb := tCall spDraw [] E0 (tCons (tVar 0) (tCons (tVar 4) tNil))) dn06.at_ rfl rfl rfl (by show 10 < 12; decide) (by omega) (by omega) (by omega)
          (fun H7 dn7 => EF.mono (ef_draw (p := p) (c := c) (m := (many : Int)) (ev_var rfl) (ev_var rfl) (by omega) (by omega) dn7.at_) fun v H' ⟨d, e, hd, dn⟩ => ⟨d, e, by omega, dn⟩)
        refine s_appF (l := ra) rfl h6 (ef_pair (p := p) (c := c) (R := fun e => 0 ≤ e ∧ e < ((many + 1 : Nat) : Int) ∧ (b : Int) ≠ e) rfl (EF.mono ho fun v H' ⟨e, he, h1, h2, dn⟩ => ⟨(e : Int), he, ⟨by omega, by omega, by omega⟩, dn⟩)) (fun v H' ⟨e, _, _, dn⟩ => dn.fr _ _ rap rac h6) (by rw [hx6.len, List.length_map, List.length_map, List.length_range]; omega) fun v H7 ⟨e, hv, ⟨q1, q2, q3⟩, dn7⟩ => ?_
        have h7 := dn7.fr _ _ rap rac h6
        have tk7 := Tk.mut (o := .lst (xs ++ [v])) h7
        refine ⟨many + 1, ra, (List.range many).map (fun i : Nat => ((i : Int), (i : Int) + 1)) ++ [((b : Int), e)], _, rfl, (dn06.trans dn7).mut hP ra0, ra0, ⟨⟨xs ++ [v], upd_same, ?_⟩, fun q hq => ?_⟩, by omega, by omega, by rw [List.length_append]; show 1 ≤ _ + 1; omega, by rw [List.length_append, List.length_map, List.length_range]; show many + 1 ≤ 7; omega⟩
        · rw [List.map_append]
          exact (((hx6.tk (dn7.tk dn06.at_)).tk tk7).snoc (hv.tk tk7))
        · rcases List.mem_append.mp hq with hq | hq
          · exact rd4.ends q hq
          · rw [List.mem_singleton.mp hq]
            exact ⟨by show (0 : Int) ≤ (b : Int); omega, by show (b : Int) < _; omega, q1, q2, q3⟩
      · obtain ⟨xs, h4, hx4⟩ := rd4.at_
        exact ⟨many + 1, ra, _, none, rfl, dn4.ex e5, ra0, ⟨⟨xs, e5 _ _ h4, hx4.ex e5⟩, rd4.ends⟩, by omega, by omega, by rw [List.length_map, List.length_range]; omega, by rw [List.length_map, List.length_range]; omega⟩
    rintro σ' H5 ⟨h, ra, rl, o9, rfl, dn5, ra0, rd5, h2, h12, l1, l7⟩
    refine q_cut (M := fun σ' H' => ∃ (h : Nat) (ra : Addr) (rl : List (Int × Int)) (o9 : Option V), σ' = [some (V.ref p), some (.int 6), some (V.ref rm), some (V.ref tm), some (.int (many : Int)), some (.int (kind : Int)), some (.int (h : Int)), some (V.ref ra), none, o9, none, none] ∧ Dn p c H H' ∧ H ra = none ∧ RdAt H' ra (h : Int) rl ∧ 2 ≤ h ∧ h ≤ 12 ∧ 1 ≤ rl.length ∧ rl.length ≤ 7) ?_ ?_
    · refine s_when (et_test (ev_eqI (ev_var rfl) ev_c)) (fun hb H6 e6 => ?_) (fun hb H6 e6 => ?_)
      · refine q_asg (ev_var rfl) fun H7 e7 => ?_
        have dn7 := dn5.ex (e6.trans e7)
        show tAsg _ _ _ [some (V.ref p), some (.int 6), some (V.ref rm), some (V.ref tm), some (.int (many : Int)), some (.int (kind : Int)), some (.int (many : Int)), some (V.ref ra), none, o9, none, none] _
        refine s_asgLD (ELD.is (eld_rng (n := many) (fun _ => true) (fun i => dPr ((i : Int), ((i : Int) + 1) % (many : Int))) (ea_cons (ev_var rfl) ea_nil) (by omega) fun i H4 hi e4 => ⟨rfl, fun _ _ _ q => q _ (Ex.refl _), fun _ => ed_tup (ead_cons (edI (ev_var rfl)) (ead_cons (edI (ev_mod (ev_int (ev_add (ev_var rfl) ev_c)) (ev_var rfl) (by omega))) ead_nil)) (by show 2 ≤ 100000; decide)⟩) (ds' := ((List.range many).map fun i : Nat => ((i : Int), ((i : Int) + 1) % (many : Int))).map dPr) (by rw [List.filter_eq_self.mpr (fun _ _ => rfl), List.map_map] <;> rfl)) fun rb xs H8 hrb e8 h8 hx8 => ?_
        have rb0 : H rb = none := by
          cases z : H rb with
          | none => rfl
          | some u =>
            obtain ⟨a, b⟩ := dn7.at_.ne_new hrb
            rw [dn7.fr rb u a b z] at hrb
            cases hrb
        refine ⟨many, rb, (List.range many).map fun i : Nat => ((i : Int), ((i : Int) + 1) % (many : Int)), o9, rfl, dn7.ex e8, rb0, ⟨⟨xs, h8, hx8⟩, fun q hq => ?_⟩, by omega, by omega, by rw [List.length_map, List.length_range]; omega, by rw [List.length_map, List.length_range]; omega⟩
        obtain ⟨i, hi, rfl⟩ := List.mem_map.mp hq
        have hi := List.mem_range.mp hi
        have m0 := Int.emod_nonneg ((i : Int) + 1) (b := (many : Int)) (by omega)
        have m1 := Int.emod_lt_of_pos ((i : Int) + 1) (b := (many : Int)) (by omega)
        refine ⟨by show (0 : Int) ≤ (i : Int); omega, by show (i : Int) < _; omega, m0, m1, ?_⟩
        show (i : Int) ≠ ((i : Int) + 1) % (many : Int)
        by_cases hl : (i : Int) + 1 < (many : Int)
        · rw [Int.emod_eq_of_lt (by omega) hl]
          omega
        · have : (i : Int) + 1 = (many : Int) := by omega
          rw [this, Int.emod_self]
          omega
      · obtain ⟨xs, h5, hx5⟩ := rd5.at_
        exact ⟨h, ra, rl, o9, rfl, dn5.ex e6, ra0, ⟨⟨xs, e6 _ _ h5, hx5.ex e6⟩, rd5.ends⟩, h2, h12, l1, l7⟩
    clear rd5 dn5 l1 l7 h2 h12 ra0 rd4 dn4 ra
    rintro σ' H6 ⟨h, ra, rl, o9, rfl, dn6, ra0, rd6, h2, h12, l1, l7⟩
    refine q_cut (M := fun σ' H' => ∃ (h : Nat) (ra : Addr) (rl : List (Int × Int)) (o9 o10 : Option V), σ' = [some (V.ref p), some (.int 6), some (V.ref rm), some (V.ref tm), some (.int (many : Int)), some (.int (kind : Int)), some (.int (h : Int)), some (V.ref ra), none, o9, o10, none] ∧ Dn p c H H' ∧ H ra = none ∧ RdAt H' ra (h : Int) rl ∧ 2 ≤ h ∧ h ≤ 12 ∧ 1 ≤ rl.length ∧ rl.length ≤ 7) ?_ ?_
    · refine s_when (et_test (ev_gt (ev_var rfl) ev_c)) (fun hb H7 e7 => ?_) (fun hb H7 e7 => ?_)
      · have dn7 := dn6.ex e7
        refine q_asgF (ef_addC (ef_draw (p := p) (c := c) (m := (many : Int)) (ev_var rfl) (ev_var rfl) (by omega) (by omega) dn7.at_)) fun v H8 ⟨d0, e, hd0, dn8⟩ => ?_
        obtain ⟨hs, em, hs2, hs12⟩ : ∃ hs : Nat, 2 + (d0 : Int) = (hs : Int) ∧ 2 ≤ hs ∧ hs ≤ 12 := ⟨2 + d0, by omega, by omega, by omega⟩
        rw [em] at e
        subst e
        have dn8 := dn7.trans dn8
        refine q_asgLD (eld_lst ead_nil (by decide)) fun rb xs H9 hrb e9 h9 hx9 => ?_
        cases (hx9 : xs = [])
        have rb0 : H rb = none := by
          cases z : H rb with
          | none => rfl
          | some u =>
            obtain ⟨a, b⟩ := dn8.at_.ne_new hrb
            rw [dn8.fr rb u a b z] at hrb
            cases hrb
        have dn9 := dn8.ex e9
        obtain ⟨rbp, rbc⟩ := hP.ne_new rb0
        show tFor _ _ _ _ [some (V.ref p), some (.int 6), some (V.ref rm), some (V.ref tm), some (.int (many : Int)), some (.int (kind : Int)), some (.int (hs : Int)), some (V.ref rb), none, o9, none, none] _
        refine s_forR1 (n := (many : Int)) (ea_cons (ev_var rfl) ea_nil) (by omega) (fun i σ' H' => ∃ (rl : List (Int × Int)) (xs : List V) (o9 o10 : Option V), σ' = [some (V.ref p), some (.int 6), some (V.ref rm), some (V.ref tm), some (.int (many : Int)), some (.int (kind : Int)), some (.int (hs : Int)), some (V.ref rb), none, o9, o10, none] ∧ Dn p c H H' ∧ H' rb = some (.lst xs) ∧ DtA H' (rl.map dPr) xs ∧ (∀ q ∈ rl, EndOk (hs : Int) q) ∧ rl.length = i) (fun H10 e10 => ⟨[], [], o9, none, rfl, dn9.ex e10, e10 _ _ h9, rfl, fun q hq => by simp at hq, rfl⟩) (fun i σ' H10 hi q => ?_) fun σ' H10 q => ?_
        · obtain ⟨rl, xs, o9, o10, rfl, dn, hx1, hx2, hen, hln⟩ := q
          show tSeq _ _ _ [some (V.ref p), some (.int 6), some (V.ref rm), some (V.ref tm), some (.int (many : Int)), some (.int (kind : Int)), some (.int (hs : Int)), some (V.ref rb), none, o9, some (.int (i : Int)), none] _
          refine q_asgF (ef_draw (p := p) (c := c) (m := (hs : Int)) (ev_var rfl) (ev_var rfl) (by omega) (by omega) dn.at_) fun v H11 ⟨b, e, hbl, dn11⟩ => ?_
          subst e
          have dn011 := dn.trans dn11
          have h11 := dn11.fr _ _ rbp rbc hx1
          have hx11 := hx2.tk (dn11.tk dn.at_)
          have xl := hx2.len
          rw [List.length_map] at xl
          show tDrop _ _ [some (V.ref p), some (.int 6), some (V.ref rm), some (V.ref tm), some (.int (many : Int)), some (.int (kind : Int)), some (.int (hs : Int)), some (V.ref rb), none, some (.int (b : Int)), some (.int (i : Int)), none] _
          have ho := ef_other (K := K) (p := p) (c := c) (n := hs) (b := b) (σ := [some (V.ref p), some (.int 6), some (V.ref rm), some (V.ref tm), some (.int (many : Int)), some (.int (kind : Int)), some (.int (hs : Int)), some (V.ref rb), none, some (.int (b : Int)), some (.int (i : Int)), none]) (tb := tCall spDraw [] E0 (tCons (tVar 0) (tCons (tOp rSubI (tVar 6) (tC (.int 1))) tNil))) dn011.at_ rfl rfl rfl (by show 10 < 12; decide) (by omega) hs2 (by omega)
            (fun H7 dn7 => EF.mono (ef_draw (p := p) (c := c) (m := (hs : Int) - 1) (ev_var rfl) (ev_sub (ev_var rfl) ev_c) (by omega) (by omega) dn7.at_) fun v H' ⟨d, e, hd, dn⟩ => ⟨d, e, by omega, dn⟩)
          refine s_appF (l := rb) rfl h11 (ef_pair (p := p) (c := c) (R := fun e => 0 ≤ e ∧ e < (hs : Int) ∧ (b : Int) ≠ e) rfl (EF.mono ho fun v H' ⟨e, he, h1, h2, dn⟩ => ⟨(e : Int), he, ⟨by omega, by omega, by omega⟩, dn⟩)) (fun v H' ⟨e, _, _, dn⟩ => dn.fr _ _ rbp rbc h11) (by omega) fun v H12 ⟨e, hv, ⟨q1, q2, q3⟩, dn12⟩ => ?_
          have h12 := dn12.fr _ _ rbp rbc h11
          have tk12 := Tk.mut (o := .lst (xs ++ [v])) h12
          refine ⟨rl ++ [((b : Int), e)], xs ++ [v], _, _, rfl, (dn011.trans dn12).mut hP rb0, upd_same, ?_, fun q hq => ?_, by rw [List.length_append, hln] <;> rfl⟩
          · rw [List.map_append]
            exact (((hx11.tk (dn12.tk dn011.at_)).tk tk12).snoc (hv.tk tk12))
          · rcases List.mem_append.mp hq with hq | hq
            · exact hen q hq
            · rw [List.mem_singleton.mp hq]
              exact ⟨by show (0 : Int) ≤ (b : Int); omega, by show (b : Int) < _; omega, q1, q2, q3⟩
        · obtain ⟨rl, xs, o9, o10, rfl, dn, hx1, hx2, hen, hln⟩ := q
          exact ⟨hs, rb, rl, o9, o10, rfl, dn, rb0, ⟨⟨xs, hx1, hx2⟩, hen⟩, hs2, hs12, by omega, by omega⟩
      · obtain ⟨xs, h5, hx5⟩ := rd6.at_
        exact ⟨h, ra, rl, o9, none, rfl, dn6.ex e7, ra0, ⟨⟨xs, e7 _ _ h5, hx5.ex e7⟩, rd6.ends⟩, h2, h12, l1, l7⟩
    clear rd6 dn6 l1 l7 h2 h12 ra0 ra
    rintro σ' H7 ⟨h, ra, rl, o9, o10, rfl, dn7, ra0, rd7, h2, h12, l1, l7⟩
    obtain ⟨rxs, hr7, hrx7⟩ := rd7.at_
    obtain ⟨rap, rac⟩ := hP.ne_new ra0
    have numsL : ∀ {H8 : Hp} {σ : L2.St} {i : Nat} {b : Addr}, Dn p c H7 H8 → σ[0]? = some (some (.ref p)) → σ[7]? = some (some (.ref ra)) → σ[i]? = some (some (.ref b)) → i ≠ 11 → 11 < σ.length → b ≠ p → b ≠ c → H b = some (.lst [.int 1, .int 1, .int 2, .int 3]) →
        EF (tCB (rTupQ K) (tCons (tLc (iSq K (tVar 7)) (gName 11) tYes (tOp (rIx K) (tVar i) (tCall spDraw [] E0 (tCons (tVar 0) (tCons (tCB (rLenQ K) (tCons (tVar i) tNil)) tNil)))) [11]) tNil)) σ H8 fun v H' => ∃ ns : List Int, Dt H' (dInts ns) v ∧ ns.length = rl.length ∧ (∀ n ∈ ns, 1 ≤ n ∧ n ≤ 3) ∧ Dn p c H8 H' := by
      intro H8 σ i b dn8 s0 s7 si ni sl bp bc hb
      have dn08 := dn7.trans dn8
      refine EF.mono (ef_tuple (p := p) (c := c) (R := fun ds => ∃ ns : List Int, ds = ns.map PyData.int ∧ ns.length = rl.length ∧ ∀ n ∈ ns, 1 ≤ n ∧ n ≤ 3) (ef_over (l := rl) dPr (fun i ds => ∃ ns : List Int, ds = ns.map PyData.int ∧ ns.length = i ∧ ∀ n ∈ ns, 1 ≤ n ∧ n ≤ 3) ⟨[], rfl, rfl, fun n hn => by simp at hn⟩ dn08.at_ (fun Q q => ⟨_, s7, q false ra rxs H8 (Ex.refl _) (dn8.fr _ _ rap rac hr7) (hrx7.tk (dn8.tk dn7.at_)) rap rac⟩) (by omega) (fun x => by simp [wipe]) fun j x ds v H9 hj dn9 ⟨ns, hns, hnl, hnb⟩ hv Q1 Q0 q1 q0 => ?_)) fun v H' ⟨ds, hv, ⟨ns, e, h1, h2⟩, dn⟩ => ⟨ns, by rw [e] at hv; exact hv, h1, h2, dn⟩
      have dn09 := dn08.trans dn9
      have hb9 := dn09.fr _ _ bp bc hb
      have s0' : (((wipe σ [11]).set 11 (some v))[0]? : Option (Option V)) = some (some (.ref p)) := by simp [wipe, s0]
      have si' : (((wipe σ [11]).set 11 (some v))[i]? : Option (Option V)) = some (some (.ref b)) := by
        have : ¬ 11 = i := fun z => ni z.symm
        simp [wipe, List.getElem?_set_ne this, si]
      unfold tYes
      dsimp only
      rw [if_pos rfl]
      refine (ef_ixL (p := p) (c := c) (m := 4) (xs := [.int 1, .int 1, .int 2, .int 3]) (fun Q q => ⟨_, si', q b H9 (Dn.refl dn09.at_) hb9 bp bc⟩) (fun H10 dn10 => ef_draw (ev_var s0') (ev_lenL (ev_var si') (dn10.fr _ _ bp bc hb9)) (by decide) (by decide) dn10.at_) (by decide)) _ fun y H10 ⟨d, hd, dn10⟩ => ?_
      obtain ⟨n, rfl, n1, n3⟩ : ∃ n : Int, y = .int n ∧ 1 ≤ n ∧ n ≤ 3 := by
        match d, hd with
        | 0, hd => cases hd; exact ⟨1, rfl, by decide, by decide⟩
        | 1, hd => cases hd; exact ⟨1, rfl, by decide, by decide⟩
        | 2, hd => cases hd; exact ⟨2, rfl, by decide, by decide⟩
        | 3, hd => cases hd; exact ⟨3, rfl, by decide, by decide⟩
        | _ + 4, hd => simp at hd
      refine q1 _ H10 (.int n) rfl ⟨ns ++ [n], by rw [hns, List.map_append] <;> rfl, by rw [List.length_append, hnl] <;> rfl, fun m hm => ?_⟩ dn10
      rcases List.mem_append.mp hm with hm | hm
      · exact hnb m hm
      · rw [List.mem_singleton.mp hm]
        exact ⟨n1, n3⟩
    refine q_asgF (numsL (i := 2) (b := rm) (Dn.refl dn7.at_) rfl rfl rfl (by decide) (by show 11 < 12; decide) rp rc hrm) fun fv H8 ⟨rms, hfv, rml, rmb, dn8⟩ => ?_
    show tRet _ _ [some (V.ref p), some (.int 6), some (V.ref rm), some (V.ref tm), some (.int (many : Int)), some (.int (kind : Int)), some (.int (h : Int)), some (V.ref ra), some fv, o9, o10, none] _
    have hr8 := dn8.fr _ _ rap rac hr7
    have hrx8 := hrx7.tk (dn8.tk dn7.at_)
    have dn08 := dn7.trans dn8
    refine ⟨_, rfl, (ed_tupleOf (es_list (ev_var rfl) hr8 hrx8)) H8 (Ex.refl _) _ fun rv H9 e9 hrv => ⟨fv, rfl, (numsL (i := 3) (b := tm) (dn8.ex e9) rfl rfl rfl (by decide) (by show 11 < 12; decide) tp tc htm) _ fun tv H10 ⟨tms, htv, tml, tmb, dn10⟩ => ⟨by show 4 ≤ sizeLine; decide, fun q hq => ?_⟩⟩⟩
    have dn9 := dn08.ex e9
    have dn010 := dn9.trans dn10
    have q0 : H q = none := by
      cases z : H q with
      | none => rfl
      | some u =>
        obtain ⟨a, b⟩ := dn010.at_.ne_new hq
        rw [dn010.fr q u a b z] at hq
        cases hq
    have eq' : Ex H10 (upd H10 q (.lst [.int (h : Int), rv, fv, tv])) := Ex.new hq
    refine k q ⟨(h : Int), rl, rms, tms⟩ _ q0 (dn010.ex eq') ⟨_, upd_same, _, _, rfl, rfl, rv, _, rfl, (hrv.tk (dn10.tk dn9.at_)).ex eq', fv, _, rfl, ((hfv.ex e9).tk (dn10.tk dn9.at_)).ex eq', tv, _, rfl, htv.ex eq', rfl⟩ ⟨by show (2 : Int) ≤ (h : Int); omega, by show (h : Int) ≤ 12; omega, l1, l7, rd7.ends, rml, tml, rmb, tmb⟩
end
end Z
/-! Lm: the led letters come home: plain words. -/
namespace Z
open PySem PySem.Spec PyProof.Rows L2 Evl

def let0 : Let := ([], 0)
/-- hours of passing that a letter may have -/
structure HrOk (W : Web) (l : Let) (row : List Int) : Prop where
  le : row.length ≤ l.1.length
  first : row ≠ [] → l.2 ≤ row.getD 0 0
  step : ∀ k, k + 1 < row.length → row.getD k 0 + W.times.getD (l.1.getD k 0) 0 ≤ row.getD (k + 1) 0
def tot (rows : List (List Int)) : Nat := (rows.map List.length).sum
theorem tot_set : ∀ (rows : List (List Int)) (i : Nat) (a : List Int), i < rows.length → tot (rows.set i a) + (rows.getD i []).length = tot rows + a.length
  | [], _, _, h => absurd h (Nat.not_lt_zero _)
  | x :: xs, 0, a, _ => by
    show tot (a :: xs) + x.length = tot (x :: xs) + a.length
    unfold tot
    rw [List.map_cons, List.map_cons, List.sum_cons, List.sum_cons]
    omega
  | x :: xs, i + 1, a, h => by
    have ih := tot_set xs i a (by simpa using h)
    unfold tot at ih ⊢
    rw [List.set_cons_succ, List.map_cons, List.map_cons, List.sum_cons, List.sum_cons, List.getD_cons_succ]
    omega
theorem tot_put (tick : Int) : ∀ (ps : List Pass) (rows : List (List Int)), (∀ p ∈ ps, p.2.2 < rows.length) → tot (putAll tick rows ps) = tot rows + ps.length
  | [], _, _ => rfl
  | p :: ps, rows, h => by
    show tot (putAll tick (rows.set p.2.2 (rows.getD p.2.2 [] ++ [tick])) ps) = _
    rw [tot_put tick ps _ (fun q hq => by rw [List.length_set]; exact h q (List.mem_cons_of_mem _ hq))]
    have h1 := tot_set rows p.2.2 (rows.getD p.2.2 [] ++ [tick]) (h p (List.mem_cons_self ..))
    rw [List.length_append] at h1
    have h1 : tot (rows.set p.2.2 (rows.getD p.2.2 [] ++ [tick])) + (rows.getD p.2.2 []).length = tot rows + ((rows.getD p.2.2 []).length + 1) := h1
    rw [List.length_cons]
    omega
theorem tot_le {m : Nat} : ∀ (rows : List (List Int)), (∀ r ∈ rows, r.length ≤ m) → tot rows ≤ m * rows.length
  | [], _ => Nat.zero_le _
  | x :: xs, h => by
    have ih := tot_le xs fun r hr => h r (List.mem_cons_of_mem _ hr)
    have hx := h x (List.mem_cons_self ..)
    unfold tot at ih ⊢
    rw [List.map_cons, List.sum_cons, List.length_cons, Nat.mul_add]
    omega
/-- who waits, by any letters -/
theorem numsG_mem {W : Web} {ls : List Let} {rows : List (List Int)} {tick r : Int} {m n : Nat} (h : n ∈ nums W ls rows tick m r) : n < m ∧ ∃ r0 : Nat, due W (ls.getD n ([], 0)) (rows.getD n []) tick = some r0 ∧ (r0 : Int) = r := by
  unfold nums at h
  obtain ⟨h1, h2⟩ := List.mem_filter.mp h
  refine ⟨List.mem_range.mp h1, ?_⟩
  have h2 := of_decide_eq_true h2
  cases e : due W (ls.getD n ([], 0)) (rows.getD n []) tick with
  | none => rw [e] at h2; cases h2
  | some x =>
    rw [e] at h2
    exact ⟨x, rfl, Option.some.inj h2⟩
theorem numsG_nodup (W : Web) (ls : List Let) (rows : List (List Int)) (tick r : Int) (m : Nat) : (nums W ls rows tick m r).Nodup := List.nodup_range.sublist List.filter_sublist
theorem due_no {W : Web} {l : Let} {row : List Int} {tick : Int} (h : due W l row tick = none) (hle : row.length ≠ l.1.length) : ∃ u, ready W l row = some u ∧ tick < u := by
  unfold due at h
  cases e : ready W l row with
  | none =>
    unfold ready at e
    rw [if_neg hle] at e
    cases e
  | some u =>
    rw [e] at h
    dsimp only at h
    split at h
    · cases h
    · exact ⟨u, rfl, by omega⟩
theorem gI_left {l m : List Int} {i : Nat} (h : i < l.length) : (l ++ m).getD i 0 = l.getD i 0 := by
  rw [List.getD_eq_getElem?_getD, List.getD_eq_getElem?_getD, List.getElem?_append_left h]
theorem gI_last {l : List Int} {x : Int} : (l ++ [x]).getD l.length 0 = x := by
  rw [List.getD_eq_getElem?_getD, List.getElem?_append_right (Nat.le_refl _), Nat.sub_self] <;> rfl
theorem last_getD {l : List Int} : l.getLastD 0 = l.getD (l.length - 1) 0 := by
  rw [List.getLastD_eq_getLast?, List.getLast?_eq_getElem?, List.getD_eq_getElem?_getD]
theorem hr_snoc {W : Web} {l : Let} {row : List Int} {tick u : Int} (h : HrOk W l row) (hr : ready W l row = some u) (ht : u ≤ tick) : HrOk W l (row ++ [tick]) := by
  have hlt := ready_lt hr h.le
  unfold ready at hr
  rw [if_neg (by omega)] at hr
  have hu := Option.some.inj hr
  refine ⟨by rw [List.length_append]; show _ + 1 ≤ _; omega, fun _ => ?_, fun k hk => ?_⟩
  · by_cases e : row = []
    · rw [e] at hu ⊢
      have hu : l.2 = u := hu
      show l.2 ≤ tick
      omega
    · have hl : 0 < row.length := List.length_pos_iff.mpr e
      rw [gI_left hl]
      exact h.first e
  · rw [List.length_append] at hk
    have hk : k + 1 < row.length + 1 := hk
    rw [gI_left (by omega : k < row.length)]
    by_cases hkl : k + 1 < row.length
    · rw [gI_left hkl]
      exact h.step k hkl
    · have ek : k + 1 = row.length := by omega
      rw [ek, gI_last]
      rw [if_neg (by omega), last_getD, show row.length - 1 = k by omega] at hu
      omega
/-- where the led letters stand behind tick t -/
structure LSt (W : Web) (ls : List Let) (t : Nat) (rows : List (List Int)) : Prop where
  len : rows.length = ls.length
  ok : ∀ i, i < ls.length → HrOk W (ls.getD i ([], 0)) (rows.getD i [])
  top : ∀ i, i < ls.length → ∀ x ∈ rows.getD i [], x ≤ (t : Int)
  prog : 60 ≤ t → (∀ i, i < ls.length → (rows.getD i []).length = (ls.getD i ([], 0)).1.length) ∨ ∃ s : Nat, s ≤ 2 ∧ (∀ i, i < ls.length → ∀ u, ready W (ls.getD i ([], 0)) (rows.getD i []) = some u → u ≤ (t : Int) - (s : Int) + 3) ∧ t ≤ 60 + 3 * tot rows + s
structure LetsOk (W : Web) (ls : List Let) : Prop where
  n : ls.length ≤ 10
  ok : ∀ l ∈ ls, LetOk W l
structure PsOk (W : Web) (ls : List Let) (rows : List (List Int)) (tick : Int) (ps : List Pass) : Prop where
  nd : (ps.map (·.2.2)).Nodup
  due : ∀ p ∈ ps, p.2.2 ∈ nums W ls rows tick ls.length (p.2.1 : Int)
  some_ : 60 < tick → ∀ r, nums W ls rows tick ls.length r ≠ [] → ps ≠ []
theorem last_le {row : List Int} {b : Int} (h : ∀ x ∈ row, x ≤ b) (hne : ¬ row.length = 0) : row.getLastD 0 ≤ b := by
  rw [last_getD]
  exact h _ (getD_mem (by omega))
theorem time_le {W : Web} {ls : List Let} (lo : LetsOk W ls) (wok : WebOk W) {i k : Nat} (hi : i < ls.length) (hk : k < (ls.getD i ([], 0)).1.length) : 1 ≤ W.times.getD ((ls.getD i ([], 0)).1.getD k 0) 0 ∧ W.times.getD ((ls.getD i ([], 0)).1.getD k 0) 0 ≤ 3 := by
  have h1 := (lo.ok _ (getD_mem (x := ([], 0)) hi)).way.roads _ (getD_mem (x := 0) hk)
  exact wok.times _ (getD_mem (by rw [wok.lt]; exact h1))
/-- ready no later than three ticks behind what has passed -/
theorem ready_le {W : Web} {ls : List Let} {rows : List (List Int)} {b u : Int} {i : Nat} (lo : LetsOk W ls) (wok : WebOk W) (hi : i < ls.length) (hok : HrOk W (ls.getD i ([], 0)) (rows.getD i [])) (hb : ∀ x ∈ rows.getD i [], x ≤ b) (h8 : 8 ≤ b) (h : ready W (ls.getD i ([], 0)) (rows.getD i []) = some u) : u ≤ b + 3 := by
  have hlt := ready_lt h hok.le
  unfold ready at h
  rw [if_neg (by omega)] at h
  have hu := Option.some.inj h
  have c8 := (lo.ok _ (getD_mem (x := ([], 0)) hi)).c8
  by_cases e : (rows.getD i []).length = 0
  · rw [if_pos e] at hu
    omega
  · rw [if_neg e] at hu
    have h1 := last_le hb e
    have h2 := (time_le lo wok hi (k := (rows.getD i []).length - 1) (by omega)).2
    omega
theorem led_step {W : Web} {ls : List Let} {t : Nat} {rows : List (List Int)} {ps : List Pass} (S : LSt W ls t rows) (lo : LetsOk W ls) (wok : WebOk W) (p : PsOk W ls rows ((t + 1 : Nat) : Int) ps) : LSt W ls (t + 1) (putAll ((t + 1 : Nat) : Int) rows ps) := by
  have fact : ∀ i, i ∈ ps.map (·.2.2) → i < ls.length ∧ ∃ u, ready W (ls.getD i ([], 0)) (rows.getD i []) = some u ∧ u ≤ ((t + 1 : Nat) : Int) := fun i hi => by
    obtain ⟨q, hq, rfl⟩ := List.mem_map.mp hi
    obtain ⟨h1, r0, h2, h3⟩ := numsG_mem (p.due q hq)
    obtain ⟨u, a, b, _⟩ := due_ready h2
    exact ⟨h1, u, a, b⟩
  have yes : ∀ i, i ∈ ps.map (·.2.2) → (putAll ((t + 1 : Nat) : Int) rows ps).getD i [] = rows.getD i [] ++ [((t + 1 : Nat) : Int)] := fun i hi => put_yes _ _ _ i p.nd hi (by rw [S.len]; exact (fact i hi).1)
  have no : ∀ i, i ∉ ps.map (·.2.2) → (putAll ((t + 1 : Nat) : Int) rows ps).getD i [] = rows.getD i [] := fun i hi => put_no _ _ _ i hi
  have ok' : ∀ i, i < ls.length → HrOk W (ls.getD i ([], 0)) ((putAll ((t + 1 : Nat) : Int) rows ps).getD i []) := fun i hi => by
    by_cases h : i ∈ ps.map (·.2.2)
    · rw [yes i h]
      obtain ⟨_, u, a, b⟩ := fact i h
      exact hr_snoc (S.ok i hi) a b
    · rw [no i h]
      exact S.ok i hi
  have top' : ∀ i, i < ls.length → ∀ x ∈ (putAll ((t + 1 : Nat) : Int) rows ps).getD i [], x ≤ ((t + 1 : Nat) : Int) := fun i hi x hx => by
    by_cases h : i ∈ ps.map (·.2.2)
    · rw [yes i h] at hx
      rcases List.mem_append.mp hx with hx | hx
      · have := S.top i hi x hx
        omega
      · rw [List.mem_singleton.mp hx]
        exact Int.le_refl _
    · rw [no i h] at hx
      have := S.top i hi x hx
      omega
  refine ⟨(put_len _ _ _).trans S.len, ok', top', fun ht => ?_⟩
  have tp := tot_put ((t + 1 : Nat) : Int) ps rows fun q hq => by
    rw [S.len]
    exact (fact _ (List.mem_map.mpr ⟨q, hq, rfl⟩)).1
  by_cases h60 : 60 ≤ t
  · rcases S.prog h60 with home | ⟨s, hs, hr, hl⟩
    · -- all at home: nobody passes
      have hps : ps = [] := by
        cases ps with
        | nil => rfl
        | cons q ps =>
          obtain ⟨h1, u, h2, _⟩ := fact q.2.2 (List.mem_map.mpr ⟨q, List.mem_cons_self .., rfl⟩)
          have := ready_lt h2 (S.ok _ h1).le
          have := home _ h1
          omega
      refine .inl fun i hi => ?_
      rw [hps]
      exact home i hi
    · by_cases e : ps = []
      · -- nobody was due
        by_cases home : ∀ i, i < ls.length → (rows.getD i []).length = (ls.getD i ([], 0)).1.length
        · refine .inl fun i hi => ?_
          rw [e]
          exact home i hi
        · refine .inr ⟨s + 1, ?_, fun i hi u hu => ?_, ?_⟩
          · have ⟨i, hi⟩ := Classical.not_forall.mp home
            have ⟨hi, hne⟩ := Classical.not_imp.mp hi
            have hd : due W (ls.getD i ([], 0)) (rows.getD i []) ((t + 1 : Nat) : Int) = none := by
              cases z : due W (ls.getD i ([], 0)) (rows.getD i []) ((t + 1 : Nat) : Int) with
              | none => rfl
              | some r =>
                exfalso
                refine p.some_ (by omega) (r : Int) (fun q => ?_) e
                have hm : i ∈ nums W ls rows ((t + 1 : Nat) : Int) ls.length (r : Int) := by
                  unfold nums
                  refine List.mem_filter.mpr ⟨List.mem_range.mpr hi, decide_eq_true ?_⟩
                  rw [z]
                  rfl
                rw [q] at hm
                cases hm
            obtain ⟨u, h1, h2⟩ := due_no hd hne
            have := hr i hi u h1
            omega
          · rw [e] at hu
            have := hr i hi u hu
            omega
          · rw [e]
            show t + 1 ≤ 60 + 3 * tot rows + (s + 1)
            omega
      · refine .inr ⟨0, by omega, fun i hi u hu => ?_, ?_⟩
        · have := ready_le lo wok hi (ok' i hi) (top' i hi) (by omega) hu
          omega
        · rw [tp]
          have : 0 < ps.length := List.length_pos_iff.mpr e
          omega
  · refine .inr ⟨0, by omega, fun i hi u hu => ?_, by omega⟩
    have := ready_le lo wok hi (ok' i hi) (top' i hi) (by omega) hu
    omega
/-- all at home by tick 399 -/
theorem led_home {W : Web} {ls : List Let} {rows : List (List Int)} (S : LSt W ls 399 rows) (lo : LetsOk W ls) : ∀ i, i < ls.length → (rows.getD i []).length = (ls.getD i ([], 0)).1.length := by
  rcases S.prog (by decide) with home | ⟨s, hs, _, hl⟩
  · exact home
  · exfalso
    have h4 : tot rows ≤ 4 * rows.length := tot_le rows fun r hr => by
      obtain ⟨i, hi⟩ := List.mem_iff_getElem?.mp hr
      have hlt := (List.getElem?_eq_some_iff.mp hi).1
      rw [S.len] at hlt
      have h1 := (S.ok i hlt).le
      rw [List.getD_eq_getElem?_getD (l := rows), hi] at h1
      exact Nat.le_trans h1 (lo.ok _ (getD_mem (x := ([], 0)) hlt)).l4
    have := lo.n
    rw [S.len] at h4
    omega
end Z
/-! Lc: _law_led. -/
namespace Z
open PySem PySem.Spec PyProof.Rows L2 Evl

section
variable {K : PySem.W.Frag} {p c : Addr} {σ : L2.St} {H H' : Hp} {t u : TT}
/-- a test that may draw -/
def EFT (t : TT) (σ : L2.St) (H : Hp) (G : Bool → Hp → Prop) : Prop := ∀ Q : Bool → Hp → Prop, (∀ b H', G b H' → Q b H') → t σ H Q
theorem eft_or {a : Bool} {G : Bool → Hp → Prop} (h1 : EvT t σ H a) (g : a = true → ∀ H1, Ex H H1 → G true H1) (h2 : a = false → ∀ H1, Ex H H1 → EFT u σ H1 G) : EFT (tOr t u) σ H G := fun Q q => h1 H (Ex.refl H) _ fun H1 e1 => by
  cases a with
  | true =>
    rw [if_pos rfl]
    exact q _ _ (g rfl H1 e1)
  | false =>
    rw [if_neg (by decide)]
    exact h2 rfl H1 e1 Q q
theorem s_whenF {D : Ends} {tu : TS} {G : Bool → Hp → Prop} (h : EFT t σ H G) (h1 : ∀ H1, G true H1 → tu D σ H1) (h2 : ∀ H1, G false H1 → D.nx σ H1) : tIfS t tu tNext D σ H := h _ fun b H1 g => by
  cases b with
  | true => exact h1 H1 g
  | false => exact h2 H1 g
end
def spLed : Sp := fun vs H Q _ => ∃ (p c a : Addr) (lv : V) (W : Web) (ls : List Let), vs = [.ref p, .ref a, lv] ∧ PoolAt H p c ∧ WebAt H a W ∧ WebOk W ∧ a ≠ p ∧ a ≠ c ∧ Dt H (dLets ls) lv ∧ LetsOk W ls ∧
  ∀ v H' hs, Dn p c H H' → Dt H' (dHours hs) v → hs.length = ls.length → (∀ i, i < ls.length → HrOk W (ls.getD i ([], 0)) (hs.getD i []) ∧ (hs.getD i []).length = (ls.getD i ([], 0)).1.length ∧ ∀ x ∈ hs.getD i [], x ≤ 399) → Q v H'
theorem ls_fit {W : Web} {ls : List Let} {t : Nat} {rows : List (List Int)} (S : LSt W ls t rows) (lo : LetsOk W ls) (wok : WebOk W) : FitR W ls rows :=
  ⟨S.len, fun i hi => (S.ok i hi).le, fun l hl x hx => by rw [wok.lt]; exact (lo.ok l hl).way.roads x hx⟩
theorem al_encO {l : List (Int × Nat)} : PySem.W.AllAlike (l.map encO) := .of fun b b' => by simp [encO, PySem.W.alike, PySem.W.alikeAll]
theorem so_encO {l : List (Int × Nat)} : PySem.W.Sortable (l.map encO) := .tuples fun b => ⟨_, _, rfl⟩
theorem de_encO (p : Int × Nat) : (encO p).depth ≤ 8 := by simp [encO, PyData.depth, PyData.depthAll]
theorem put_app (tick : Int) (rows : List (List Int)) (ps qs : List Pass) : putAll tick rows (ps ++ qs) = putAll tick (putAll tick rows ps) qs := by
  unfold putAll
  rw [List.foldl_append]
abbrev s_l_led : Stmt := top 44
abbrev N_l_led : List Str := ["_law_pool_here", "_law_web_here", "_law_letters", "_law_rows", "_law_ranks", "_law_lazy", "_law_tick", "_law_waits_here", "_law_road", "_law_letter_here", "_law_order", "_law_rank", "_law_number", "_law_row"]
theorem sc_l_led : FnScope N_l_led ["_law_pool_here", "_law_web_here", "_law_letters"] (defScope s_l_led) := ⟨rfl, rfl, rfl, by decide +kernel, rfl, by decide +kernel, by decide +kernel⟩
section
variable {P : Program} {w : World} {K : PySem.W.Frag} {mg : Str → Option Value} {base : Heap} {f : Addr} {fd : FuncData}
theorem ok_l_led (F : Fun K "_law_led" "_law_led" s_l_led f fd) (B : Bl mg) (c_l_draw : Cal P w K mg base "_law_draw" 1 ["_law_pool_here", "_law_many"] spDraw) (c_l_waits : Cal P w K mg base "_law_waits" 2 ["_law_web_here", "_law_letters", "_law_rows", "_law_tick"] spWaits) :
    FnOk P w K mg base CX0 3 f fd ["_law_pool_here", "_law_web_here", "_law_letters"] spLed := by
  refine F.ok sc_l_led (fun vs H Q E h => ?_) (fun cdv A outer s H vs Q E hr h => ?_)
  · obtain ⟨p, c, a, lv, W, ls, rfl, _⟩ := h
    rfl
  · obtain ⟨p, c, a, lv, W, ls, rfl, hP, hW, wok, ap, ac, hlv, lo, k⟩ := h
    have hu64 := hr.units
    have hu := hu_of hr
    refine ⟨_, (pss_cons (ps_setLc (i := 3) (own := [("_law_letter_here", 9)]) rfl sc_l_led.nd rfl rfl (sw_true rfl rfl rfl (by decide +kernel)) (k_sq (K := K) (pv 2)) (blkOk_by (N := N_l_led) (sc := defScope s_l_led) (by decide +kernel)) (fun _ _ _ _ _ => (pg_name (i := 9) sc_l_led.nd rfl (.inl rfl))) (fun _ _ _ _ _ => pts_nil) (fun _ _ _ _ _ => (pe_lst pa_nil)))
    (pss_cons (ps_set (i := 4) sc_l_led.nd rfl (.inr rfl) (pe_lc (own := [("_law_letter_here", 9)]) rfl sc_l_led.nd (k_sq (K := K) (pv 2)) (blkOk_by (N := N_l_led) (sc := defScope s_l_led) (by decide +kernel)) (fun _ _ _ _ _ => (pg_name (i := 9) sc_l_led.nd rfl (.inl rfl))) (fun _ _ _ _ _ => pts_nil) (fun _ _ _ _ _ => (pe_callC c_l_draw (hr.mono (by decide)) (by rfl) (pa_cons (pv 0) (pa_cons pe_int pa_nil))))))
    (pss_cons (ps_set (i := 5) sc_l_led.nd rfl (.inl rfl) (pe_ix (kIx (K := K)) (pe_lst (pa_cons pe_int (pa_cons pe_int (pa_cons pe_int (pa_cons pe_int pa_nil))))) (pe_callC c_l_draw (hr.mono (by decide)) (by rfl) (pa_cons (pv 0) (pa_cons pe_int pa_nil))) (fun _ _ => rfl)))
    (pss_cons (ps_for PassesOwn.never rfl (pi_range2 (by rfl) B.range (pa_cons pe_int (pa_cons pe_int pa_nil))) (pg_name (i := 6) sc_l_led.nd rfl (.inl rfl))
    (pss_cons (ps_set (i := 7) sc_l_led.nd rfl (.inl rfl) (pe_callC c_l_waits (hr.mono (by decide)) (by rfl) (pa_cons (pv 1) (pa_cons (pv 2) (pa_cons (pv 3) (pa_cons (pv 6) pa_nil))))))
      (pss_one (ps_for PassesOwn.never rfl (k_sq (K := K) (pe_callB (kSortD (K := K) hu64) (by rfl) B.sorted b_sorted (pa_cons (pe_callTy (kLst (K := K)) (by rfl) B.list b_list (pa_cons (pv 7) pa_nil)) pa_nil))) (pg_name (i := 8) sc_l_led.nd rfl (.inl rfl))
      (pss_cons (ps_set (i := 10) sc_l_led.nd rfl (.inl rfl) (pe_callB (kSortD (K := K) hu64) (by rfl) B.sorted b_sorted (pa_cons (pe_lc (own := [("_law_number", 12)]) rfl sc_l_led.nd (k_sq (K := K) (pe_dget hu (pv 7) (pv 8) (fun _ _ => rfl))) (blkOk_by (N := N_l_led) (sc := defScope s_l_led) (by decide +kernel)) (fun _ _ _ _ _ => (pg_name (i := 12) sc_l_led.nd rfl (.inl rfl))) (fun _ _ _ _ _ => pts_nil) (fun _ _ _ _ _ => (pe_tup (pa_cons (pe_ix (kIx (K := K)) (pv 4) (pv 12) (fun _ _ => rfl)) (pa_cons (pv 12) pa_nil))))) pa_nil)))
        (pss_one (ps_for PassesOwn.never rfl (k_sq (K := K) (pe_slice (kSl (K := K)) (pv 10) po_none (po_some (pe_ix (kIx (K := K)) (pe_ix (kIx (K := K)) (pv 1) pe_int (fun _ _ => rfl)) (pv 8) (fun _ _ => rfl))))) (k_tup (K := K) (n := 2) (by rfl) (pgs_cons (pg_name (i := 11) sc_l_led.nd rfl (.inl rfl)) (pgs_cons (pg_name (i := 12) sc_l_led.nd rfl (.inl rfl)) pgs_nil)))
        (pss_one (ps_if (PW.pt (pw_or (pt_cmpR (kEq (K := K) hu64) (pv 5) pe_int (nomark _)) (pw_or (pt_cmpR oGt (pv 6) pe_int (nomark _)) (pw_or1 (pt_cmpR oGt (pe_callC c_l_draw (hr.mono (by decide)) (by rfl) (pa_cons (pv 0) (pa_cons (pv 5) pa_nil))) pe_int (nomark _))))))
          (pss_one (ps_expr (pe_bm PySem.F.plainAttrs_list PySem.F.slot_list_append PySem.F.type_list_append mt_append (pe_ix (kIx (K := K)) (pv 3) (pv 12) (fun _ _ => rfl)) (pa_cons (pv 6) pa_nil))))
          pss_nil)))))))))
    (pss_one (ps_ret (pe_callTy (kTup (K := K)) (by rfl) B.tuple b_tuple (pa_cons (pe_lc (own := [("_law_row", 13)]) rfl sc_l_led.nd (k_sq (K := K) (pv 3)) (blkOk_by (N := N_l_led) (sc := defScope s_l_led) (by decide +kernel)) (fun _ _ _ _ _ => (pg_name (i := 13) sc_l_led.nd rfl (.inl rfl))) (fun _ _ _ _ _ => pts_nil) (fun _ _ _ _ _ => (pe_callTy (kTup (K := K)) (by rfl) B.tuple b_tuple (pa_cons (pv 13) pa_nil)))) pa_nil)))))))), ?_⟩
    have n10 := lo.n
    have r7 := wok.r7
    refine q_asgRows ls dLet (ED.es (ed_var rfl hlv)) (fun _ => rfl) (fun _ _ _ q => q) (by omega) fun rp rs H1 hrp e1 hR hrs hprs => ?_
    have dn1 : Dn p c H H1 := Dn.of hP e1
    have hWd : ∀ {H'}, Dn p c H H' → WebAt H' a W := fun dn => dn.fk.web hP.so (fun z => z.elim ap ac) hW
    have hlvd : ∀ {H'}, Dn p c H H' → Dt H' (dLets ls) lv := fun dn => hlv.tk (dn.tk hP)
    show tSeq _ _ _ [some (V.ref p), some (V.ref a), some lv, some (V.ref rp), none, none, none, none, none, none, none, none, none, none] _
    -- ranks
    refine q_asgF (ef_over (p := p) (c := c) (l := ls) dLet (fun i ds => ∃ ks : List Int, ds = ks.map PyData.int ∧ ks.length = i) ⟨[], rfl, rfl⟩ dn1.at_ (fun Q q => by
      obtain ⟨b, xs, e, hb, hx⟩ := hlvd dn1
      refine ⟨lv, rfl, ?_⟩
      rw [e]
      have nb : ∀ z : Addr, (∃ o, H1 z = some (.lst o)) → b ≠ z := fun z ⟨o, hz⟩ q => by
        subst q
        rcases hb with hb | ⟨ob, hb⟩ <;> rw [hz] at hb <;> cases hb
      obtain ⟨z1, m, cells, p1, p2, p3⟩ := dn1.at_
      exact q true b xs H1 (Ex.refl _) hb hx (nb p ⟨_, p1⟩) (nb c ⟨_, p2⟩)) (by omega) (fun _ => rfl) fun i x ds v H4 hi dn4 ⟨ks, hks, hkl⟩ hv Q1 Q0 q1 q0 => ?_) fun v H2 ⟨kl, kxs, ds, e, hkl0, hkl, hkx, ⟨ks, hks, hkn⟩, dn2⟩ => ?_
    · unfold tYes
      dsimp only
      rw [if_pos rfl]
      refine (ef_draw (p := p) (c := c) (m := 9) (ev_var rfl) ev_c (by decide) (by decide) (dn1.trans dn4).at_) _ fun y H5 ⟨d, e, hd, dn5⟩ => ?_
      exact q1 y H5 (.int (d : Int)) e ⟨ks ++ [(d : Int)], by rw [hks, List.map_append] <;> rfl, by rw [List.length_append, hkl] <;> rfl⟩ dn5
    subst e
    subst hks
    have hkx := hkx.ints
    subst hkx
    have dn02 := dn1.trans dn2
    have hrn : ∀ b, H b = none → b ≠ p ∧ b ≠ c := fun b z => hP.ne_new z
    have back : ∀ {H' : Hp} {b : Addr}, Dn p c H H' → H' b = none → H b = none := fun {H' b} dn z => by
      cases q : H b with
      | none => rfl
      | some u =>
        obtain ⟨x, y⟩ := dn.at_.ne_new z
        rw [dn.fr b u x y q] at z
        cases z
    have kl0 : H kl = none := back dn1 hkl0
    have hR2 : RowsAt H2 rp rs (ls.map fun _ => []) := hR.fk2 dn2.fk (fun z => z.elim (hrn rp hrp).1 (hrn rp hrp).2) fun r hr z => z.elim (hrn r (hrs r hr)).1 (hrn r (hrs r hr)).2
    have klrs : kl ∉ rs := fun z => by
      obtain ⟨xs, q⟩ := hR.mem z
      rw [q] at hkl0
      cases hkl0
    have klrp : kl ≠ rp := fun z => by rw [z, hR.at_] at hkl0; cases hkl0
    clear hR dn2 dn1 e1 hkl0
    -- lazy
    refine q_asgF (ef_ixL (p := p) (c := c) (m := 4) (xs := [.int 1, .int 1, .int 5, .int 3]) (fun Q q => ⟨by show 4 ≤ sizeLine; decide, fun b hb => q b _ (Dn.of dn02.at_ (Ex.new hb)) upd_same (dn02.at_.ne_new hb).1 (dn02.at_.ne_new hb).2⟩) (fun H3 dn => ef_draw (ev_var rfl) ev_c (by decide) (by decide) dn.at_) (by decide)) fun v H3 ⟨d, hd, dn3⟩ => ?_
    obtain ⟨lazy, rfl, hz, hz2⟩ : ∃ m : Int, v = .int m ∧ 0 < m ∧ m ≤ 100000 := by
      match d, hd with
      | 0, hd => cases hd; exact ⟨1, rfl, by decide, by decide⟩
      | 1, hd => cases hd; exact ⟨1, rfl, by decide, by decide⟩
      | 2, hd => cases hd; exact ⟨5, rfl, by decide, by decide⟩
      | 3, hd => cases hd; exact ⟨3, rfl, by decide, by decide⟩
      | _ + 4, hd => simp at hd
    have dn03 := dn02.trans dn3
    have hR3 : RowsAt H3 rp rs (ls.map fun _ => []) := hR2.fk2 dn3.fk (fun z => z.elim (hrn rp hrp).1 (hrn rp hrp).2) fun r hr z => z.elim (hrn r (hrs r hr)).1 (hrn r (hrs r hr)).2
    have hkl3 : H3 kl = some (.lst (ks.map V.int)) := dn3.fr _ _ (hrn kl kl0).1 (hrn kl kl0).2 hkl
    clear hR2 dn02 dn3 hkl
    have S0 : LSt W ls 0 (ls.map fun _ => []) := by
      have e : ∀ i, (ls.map fun _ => ([] : List Int)).getD i [] = [] := fun i => by
        rw [List.getD_eq_getElem?_getD, List.getElem?_map]
        cases ls[i]? <;> rfl
      refine ⟨List.length_map _, fun i hi => ?_, fun i hi x hx => ?_, fun h => absurd h (by decide)⟩
      · rw [e]
        exact ⟨Nat.zero_le _, fun z => absurd rfl z, fun k hk => absurd hk (Nat.not_lt_zero _)⟩
      · rw [e] at hx
        cases hx
    -- the ticks
    refine q_forR2 (lo := 1) (n := 400) (ea_cons ev_c (ea_cons ev_c ea_nil)) (by omega) (fun t σ' H' => ∃ rows o6 o7 o8 o10 o11 o12, σ' = [some (V.ref p), some (V.ref a), some lv, some (V.ref rp), some (V.ref kl), some (.int lazy), o6, o7, o8, none, o10, o11, o12, none] ∧ Dn p c H H' ∧ RowsAt H' rp rs rows ∧ LSt W ls t rows ∧ H' kl = some (.lst (ks.map V.int))) (fun H4 e4 => ⟨_, none, none, none, none, none, none, rfl, dn03.ex e4, hR3.ex e4, S0, e4 _ _ hkl3⟩) (fun t σ' H4 ht q => ?_) fun σ' H4 q => ?_
    · obtain ⟨rows, o6, o7, o8, o10, o11, o12, rfl, dn, hR, S, hkl⟩ := q
      have et : (1 : Int) + (t : Int) = ((t + 1 : Nat) : Int) := by omega
      rw [et]
      show tSeq _ _ _ [some (V.ref p), some (V.ref a), some lv, some (V.ref rp), some (V.ref kl), some (.int lazy), some (.int ((t + 1 : Nat) : Int)), o7, o8, none, o10, o11, o12, none] _
      have fit := ls_fit S lo wok
      refine q_call (eap_v (ev_var rfl) (eap_v (ev_var rfl) (eap_v (ev_var rfl) (eap_v (ev_var rfl) eap_nil)))) fun ws H5 e5 hp => ?_
      obtain ⟨_, rfl, _, rfl, _, rfl, _, rfl, rfl⟩ := hp
      refine ⟨a, rp, lv, rs, W, ls, rows, ((t + 1 : Nat) : Int), rfl, (hWd dn).ex e5, ((hlvd dn).ex e5).sqd, hR.ex e5, fit, by omega, fun d H6 es dw hel => ?_⟩
      have e46 := e5.trans dw.ex
      have dn6 := dn.ex e46
      have hR6 := hR.ex e46
      have hkl6 := e46 _ _ hkl
      have dr : DR H6 d es (nums W ls rows ((t + 1 : Nat) : Int) ls.length) := dw.dr
      have es0 : ∀ e ∈ es, e.2 ≠ p ∧ e.2 ≠ c ∧ e.2 ∉ rs := fun e he => by
        have hn := (dw.all e he).1
        obtain ⟨x, y⟩ := (dn.ex e5).at_.ne_new hn
        refine ⟨x, y, fun z => ?_⟩
        obtain ⟨xs, q⟩ := (hR.ex e5).mem z
        rw [hn] at q
        cases q
      clear dw e46 e5 hR hkl dn
      show tFor _ _ _ _ [some (V.ref p), some (V.ref a), some lv, some (V.ref rp), some (V.ref kl), some (.int lazy), some (.int ((t + 1 : Nat) : Int)), some (V.ref d), o8, none, o10, o11, o12, none] _
      have lnd : (sortI (es.map (·.1))).Nodup := (sortI_perm _).nodup_iff.mpr dr.nk
      refine s_forLD (ds := (sortI (es.map (·.1))).map PyData.int) (eld_sorted (enc := PyData.int) (eld_keys dr (ev_var rfl)) al_ints so_ints fun i _ => de_int i)
        (fun q xs j σ' H' => ∃ ps o8 o10 o11 o12, σ' = [some (V.ref p), some (V.ref a), some lv, some (V.ref rp), some (V.ref kl), some (.int lazy), some (.int ((t + 1 : Nat) : Int)), some (V.ref d), o8, none, o10, o11, o12, none] ∧ Dn p c H H' ∧ RowsAt H' rp rs (putAll ((t + 1 : Nat) : Int) rows ps) ∧ H' kl = some (.lst (ks.map V.int)) ∧ DR H' d es (nums W ls rows ((t + 1 : Nat) : Int) ls.length) ∧
          (ps.map (·.2.2)).Nodup ∧ (∀ x ∈ ps, x.2.2 ∈ nums W ls rows ((t + 1 : Nat) : Int) ls.length (x.2.1 : Int) ∧ (x.2.1 : Int) ∈ (sortI (es.map (·.1))).take j) ∧ (60 < t + 1 → 0 < j → ps ≠ []) ∧ H' q = some (.lst xs) ∧ DtA H' ((sortI (es.map (·.1))).map PyData.int) xs ∧ q ≠ p ∧ q ≠ c ∧ q ∉ rs)
        (fun q xs H7 hq0 e7 hq hx => ⟨[], o8, o10, o11, o12, rfl, dn6.ex e7, hR6.ex e7, e7 _ _ hkl6, dr.ex e7, List.nodup_nil, fun x hx => by simp at hx, fun _ z => absurd z (Nat.lt_irrefl _), hq, hx, (dn6.at_.ne_new hq0).1, (dn6.at_.ne_new hq0).2, fun z => by
          obtain ⟨ys, w⟩ := hR6.mem z
          rw [w] at hq0
          cases hq0⟩)
        (fun q xs j σ' H' _ ⟨_, _, _, _, _, _, _, _, _, _, _, _, _, q1, q2, _⟩ => ⟨q1, q2⟩) (fun q xs j dd v σ' H7 hdj hdv g => ?_) fun q xs σ' H7 g => ?_
      · obtain ⟨ps, o8, o10, o11, o12, rfl, dn, hR, hkl, dr, nd, hps, hne, hq, hqx, qp, qc, qrs⟩ := g
        rw [List.getElem?_map] at hdj
        cases hrj : (sortI (es.map (·.1)))[j]? with
        | none => rw [hrj] at hdj; cases hdj
        | some r =>
          rw [hrj] at hdj
          cases hdj
          cases (hdv : v = .int r)
          have hrk : r ∈ es.map (·.1) := (sortI_perm _).mem_iff.mp (List.mem_of_getElem? hrj)
          obtain ⟨e0, he0, her⟩ := List.mem_map.mp hrk
          have hnr : nums W ls rows ((t + 1 : Nat) : Int) ls.length r ≠ [] := by rw [← her]; exact (dr.all e0 he0).2
          obtain ⟨n0, hn0⟩ : ∃ n, n ∈ nums W ls rows ((t + 1 : Nat) : Int) ls.length r := by
            cases z : nums W ls rows ((t + 1 : Nat) : Int) ls.length r with
            | nil => exact absurd z hnr
            | cons x y => exact ⟨x, List.mem_cons_self ..⟩
          obtain ⟨hn0l, r0, hdue0, er⟩ := numsG_mem hn0
          subst er
          have hr0 : r0 < W.roads.length := by
            obtain ⟨u, a1, a2, a3⟩ := due_ready hdue0
            have h6 := ready_lt a1 (S.ok n0 hn0l).le
            rw [← a3]
            exact (lo.ok _ (getD_mem (x := ([], 0)) hn0l)).way.roads _ (getD_mem h6)
          have hnl := nums_len W ls rows ((t + 1 : Nat) : Int) ls.length (r0 : Int)
          show tSeq _ _ _ [some (V.ref p), some (V.ref a), some lv, some (V.ref rp), some (V.ref kl), some (.int lazy), some (.int ((t + 1 : Nat) : Int)), some (V.ref d), some (.int (r0 : Int)), none, o10, o11, o12, none] _
          -- order
          refine q_asgLD (eld_sorted (bs := (nums W ls rows ((t + 1 : Nat) : Int) ls.length (r0 : Int)).map fun n => (ks.getD n 0, n)) (enc := encO) (ELD.is (eld_all (nums W ls rows ((t + 1 : Nat) : Int) ls.length (r0 : Int)) iN (fun n => encO (ks.getD n 0, n)) (es_dr dr (ev_var rfl) (ev_var rfl) hnr) mono_name (by omega) fun n v H8 hn e8 hv => ?_) (by rw [List.map_map] <;> rfl)) al_encO so_encO fun b _ => de_encO b) fun oa oxs H8 hoa e8 h8 hx8 => ?_
          · cases (hv : v = .int (n : Int))
            have hnlt := (numsG_mem hn).1
            exact ⟨Ex.refl _, rfl, fun _ _ _ q => q _ (Ex.refl _), ed_tup (ead_cons (ed_ixn (es_ints (ev_var rfl) (e8 _ _ hkl)) (ev_var rfl) (map_at (by omega))) (ead_cons (edI (ev_var rfl)) ead_nil)) (by show 2 ≤ 100000; decide)⟩
          have hord : (((nums W ls rows ((t + 1 : Nat) : Int) ls.length (r0 : Int)).map fun n => (ks.getD n 0, n)).mergeSort (PySem.W.dataLe false encO)).map (·.2) |>.Perm (nums W ls rows ((t + 1 : Nat) : Int) ls.length (r0 : Int)) := by
            have h := (List.mergeSort_perm ((nums W ls rows ((t + 1 : Nat) : Int) ls.length (r0 : Int)).map fun n => (ks.getD n 0, n)) (PySem.W.dataLe false encO)).map (·.2)
            rw [List.map_map] at h
            have e : List.map ((fun x : Int × Nat => x.2) ∘ fun n => (ks.getD n 0, n)) (nums W ls rows ((t + 1 : Nat) : Int) ls.length (r0 : Int)) = nums W ls rows ((t + 1 : Nat) : Int) ls.length (r0 : Int) := List.map_id' _
            rw [e] at h
            exact h
          generalize ((nums W ls rows ((t + 1 : Nat) : Int) ls.length (r0 : Int)).map fun n => (ks.getD n 0, n)).mergeSort (PySem.W.dataLe false encO) = ord at *
          have hrm := wok.rooms _ (getD_mem (x := 0) (i := r0) (by rw [wok.lm]; exact hr0))
          have dn8 := dn.ex e8
          have hR8 := hR.ex e8
          have hkl8 := e8 _ _ hkl
          have dr8 := dr.ex e8
          have hq8 := e8 _ _ hq
          have hqx8 := hqx.ex e8
          have oap := (dn.at_.ne_new hoa).1
          have oac := (dn.at_.ne_new hoa).2
          show tFor _ _ _ _ [some (V.ref p), some (V.ref a), some lv, some (V.ref rp), some (V.ref kl), some (.int lazy), some (.int ((t + 1 : Nat) : Int)), some (V.ref d), some (.int (r0 : Int)), none, some (V.ref oa), o11, o12, none] _
          have ek : W.rooms.getD r0 0 = (((W.rooms.getD r0 0).toNat : Nat) : Int) := by omega
          refine s_forLD (ds := (ord.take (W.rooms.getD r0 0).toNat).map encO) (ELD.is (eld_cutV (k := (W.rooms.getD r0 0).toNat) (ev_var rfl) h8 hx8 (eo_some (ev_isI (ev_num (ed_rooms (hWd dn8) (ev_var rfl)) (ev_var rfl) (by rw [wok.lm]; exact hr0)) ek))) (by rw [List.map_take]))
            (fun q2 xs2 i σ' H' => ∃ qs o11 o12, σ' = [some (V.ref p), some (V.ref a), some lv, some (V.ref rp), some (V.ref kl), some (.int lazy), some (.int ((t + 1 : Nat) : Int)), some (V.ref d), some (.int (r0 : Int)), none, some (V.ref oa), o11, o12, none] ∧ Dn p c H H' ∧ RowsAt H' rp rs (putAll ((t + 1 : Nat) : Int) rows (ps ++ qs.map fun n => (((t + 1 : Nat) : Int), r0, n))) ∧ H' kl = some (.lst (ks.map V.int)) ∧ DR H' d es (nums W ls rows ((t + 1 : Nat) : Int) ls.length) ∧
              qs.Nodup ∧ (∀ n ∈ qs, n ∈ (ord.take i).map (·.2)) ∧ (60 < t + 1 → qs.length = i) ∧ H' q = some (.lst xs) ∧ DtA H' ((sortI (es.map (·.1))).map PyData.int) xs ∧ H' q2 = some (.lst xs2) ∧ DtA H' ((ord.take (W.rooms.getD r0 0).toNat).map encO) xs2 ∧ q2 ≠ p ∧ q2 ≠ c ∧ q2 ∉ rs)
            (fun q2 xs2 H9 hq0 e9 hq9 hx9 => ⟨[], o11, o12, rfl, dn8.ex e9, by rw [List.map_nil, List.append_nil]; exact hR8.ex e9, e9 _ _ hkl8, dr8.ex e9, List.nodup_nil, fun n hn => by simp at hn, fun _ => rfl, e9 _ _ hq8, hqx8.ex e9, hq9, hx9, (dn8.at_.ne_new hq0).1, (dn8.at_.ne_new hq0).2, fun z => by
              obtain ⟨ys, w⟩ := hR8.mem z
              rw [w] at hq0
              cases hq0⟩)
            (fun q2 xs2 i σ' H' _ ⟨_, _, _, _, _, _, _, _, _, _, _, _, _, q1, q2, _⟩ => ⟨q1, q2⟩) (fun q2 xs2 i dd v σ' H9 hdi hdv g => ?_) fun q2 xs2 σ' H9 g => ?_
          · obtain ⟨qs, o11, o12, rfl, dn9, hR9, hkl9, dr9, qnd, qin, qlen, hq9, hqx9, hq29, hqx29, q2p, q2c, q2rs⟩ := g
            rw [List.getElem?_map] at hdi
            cases hxi : (ord.take (W.rooms.getD r0 0).toNat)[i]? with
            | none => rw [hxi] at hdi; cases hdi
            | some x =>
              rw [hxi] at hdi
              cases hdi
              have hoi : ord[i]? = some x := by
                rw [List.getElem?_take] at hxi
                split at hxi
                · exact hxi
                · cases hxi
              have hxn : x.2 ∈ nums W ls rows ((t + 1 : Nat) : Int) ls.length (r0 : Int) := hord.mem_iff.mp (List.mem_map.mpr ⟨x, List.mem_of_getElem? hoi, rfl⟩)
              obtain ⟨hnl', r1, hdue, er1⟩ := numsG_mem hxn
              have er1 : r1 = r0 := by omega
              subst er1
              have hond : (ord.map (·.2)).Nodup := hord.nodup_iff.mpr (numsG_nodup _ _ _ _ _ _)
              have nqs : x.2 ∉ qs := fun z => by
                obtain ⟨y, hy, ey⟩ := List.mem_map.mp (qin _ z)
                obtain ⟨i', hi'⟩ := List.mem_iff_getElem?.mp hy
                have hlt : i' < i := by
                  have := (List.getElem?_eq_some_iff.mp hi').1
                  rw [List.length_take] at this
                  omega
                rw [List.getElem?_take, if_pos hlt] at hi'
                have := nd_ix hond (x := x.2) (i := i') (j := i) (by rw [List.getElem?_map, hi']; exact congrArg some ey) (by rw [List.getElem?_map, hoi] <;> rfl)
                omega
              have nps : x.2 ∉ ps.map (·.2.2) := fun z => by
                obtain ⟨y, hy, ey⟩ := List.mem_map.mp z
                obtain ⟨y1, y2⟩ := hps y hy
                obtain ⟨_, r2, hdue2, er2⟩ := numsG_mem y1
                rw [show y.2.2 = x.2 from ey, hdue] at hdue2
                have e12 : r1 = r2 := Option.some.inj hdue2
                obtain ⟨j', hj'⟩ := List.mem_iff_getElem?.mp y2
                have hlt : j' < j := by
                  have := (List.getElem?_eq_some_iff.mp hj').1
                  rw [List.length_take] at this
                  omega
                rw [List.getElem?_take, if_pos hlt, ← er2, ← e12] at hj'
                have := nd_ix lnd hj' hrj
                omega
              have nall : x.2 ∉ (ps ++ qs.map fun n => (((t + 1 : Nat) : Int), r1, n)).map (·.2.2) := fun z => by
                rw [List.map_append] at z
                rcases List.mem_append.mp z with z | z
                · exact nps z
                · rw [List.map_map] at z
                  have e : List.map ((fun x : Pass => x.2.2) ∘ fun n => (((t + 1 : Nat) : Int), r1, n)) qs = qs := List.map_id' _
                  rw [e] at z
                  exact nqs z
              refine g_tup hdv rfl fun ws hws => ?_
              obtain ⟨v1, _, rfl, hv1, v2, _, rfl, hv2, hr4⟩ := hws
              cases (hr4 : _ = [])
              cases (hv2 : v2 = .int (x.2 : Int))
              refine ⟨v1, _, rfl, _, _, rfl, rfl, ?_⟩
              show tIfS _ _ _ _ [some (V.ref p), some (V.ref a), some lv, some (V.ref rp), some (V.ref kl), some (.int lazy), some (.int ((t + 1 : Nat) : Int)), some (V.ref d), some (.int (r1 : Int)), none, some (V.ref oa), some v1, some (.int (x.2 : Int)), none] _
              refine s_whenF (G := fun b H' => Dn p c H9 H' ∧ (60 < t + 1 → b = true)) (eft_or (et_test (ev_eqI (ev_var rfl) ev_c)) (fun _ H10 e10 => ⟨Dn.of dn9.at_ e10, fun _ => rfl⟩) fun _ H10 e10 => eft_or (et_test (ev_gt (ev_var rfl) ev_c)) (fun _ H11 e11 => ⟨Dn.of dn9.at_ (e10.trans e11), fun _ => rfl⟩) fun hb H11 e11 => ?_) (fun H10 ⟨dn10, _⟩ => ?_) (fun H10 ⟨dn10, hb⟩ => ?_)
              · intro Q q
                have hb := of_decide_eq_false hb
                have dn11 := Dn.of dn9.at_ (e10.trans e11)
                refine (ef_draw (p := p) (c := c) (m := lazy) (ev_var rfl) (ev_var rfl) hz hz2 dn11.at_) _ fun v H12 ⟨d', e, hd', dn12⟩ => ?_
                subst e
                refine ⟨_, 0, rfl, rfl, _, rfl, q _ H12 ⟨dn11.trans dn12, fun z => ?_⟩⟩
                omega
              · have hR10 : RowsAt H10 rp rs (putAll ((t + 1 : Nat) : Int) rows (ps ++ qs.map fun n => (((t + 1 : Nat) : Int), r1, n))) := hR9.fk2 dn10.fk (fun z => z.elim (hrn rp hrp).1 (hrn rp hrp).2) fun r hr z => z.elim (hrn r (hrs r hr)).1 (hrn r (hrs r hr)).2
                obtain ⟨r, hr1, hr2, hr3⟩ := hR10.get (i := x.2) (by rw [put_len, S.len]; exact hnl')
                have hrm' := List.mem_of_getElem? hr1
                have hrow : (putAll ((t + 1 : Nat) : Int) rows (ps ++ qs.map fun n => (((t + 1 : Nat) : Int), r1, n))).getD x.2 [] = rows.getD x.2 [] := put_no _ _ _ _ nall
                have hrl := (S.ok x.2 hnl').le
                have hl4 := (lo.ok _ (getD_mem (x := ([], 0)) hnl')).l4
                refine s_app hr2 (ev_ixL (ev_var rfl) hR10.at_ (ev_var rfl) hr3) (ev_var rfl) (by rw [hrow, List.length_map]; omega) fun H11 e11 => ?_
                have hR11 := (hR10.ex e11).app (x := ((t + 1 : Nat) : Int)) hr1 hprs
                have er : ((putAll ((t + 1 : Nat) : Int) rows (ps ++ qs.map fun n => (((t + 1 : Nat) : Int), r1, n))).getD x.2 []).map V.int ++ [V.int ((t + 1 : Nat) : Int)] = ((putAll ((t + 1 : Nat) : Int) rows (ps ++ qs.map fun n => (((t + 1 : Nat) : Int), r1, n))).getD x.2 [] ++ [((t + 1 : Nat) : Int)]).map V.int := by rw [List.map_append] <;> rfl
                rw [er]
                have hr11 := e11 _ _ hr2
                have dn11 := (dn9.trans dn10).ex e11
                have F : Fk (fun b => b = r) H11 (upd H11 r (.lst (((putAll ((t + 1 : Nat) : Int) rows (ps ++ qs.map fun n => (((t + 1 : Nat) : Int), r1, n))).getD x.2 [] ++ [((t + 1 : Nat) : Int)]).map V.int))) := Fk.at rfl
                have so : So (fun b => b = r) H11 := fun b u z q => by
                  subst z
                  rw [hr11] at q
                  cases q
                  exact .inl ⟨_, rfl⟩
                have keep : ∀ {b : Addr} {o : HO}, b ≠ p → b ≠ c → H9 b = some o → H11 b = some o := fun a1 a2 z => e11 _ _ (dn10.fr _ _ a1 a2 z)
                have so9 : So (fun b => b = p ∨ b = c) H9 := dn9.at_.so
                have dr11 : DR H11 d es (nums W ls rows ((t + 1 : Nat) : Int) ls.length) := (dr9.fk dn10.fk so9 fun e he z => z.elim (es0 e he).1 (es0 e he).2.1).ex e11
                have tk911 : Tk H9 H11 := (dn10.tk dn9.at_).trans (Ex.tk e11)
                refine ⟨qs ++ [x.2], _, _, rfl, dn11.mut hP (hrs r hrm'), ?_, F _ _ (fun z => klrs (z ▸ hrm')) (keep (hrn kl kl0).1 (hrn kl kl0).2 hkl9), dr11.fk F so fun e he z => (es0 e he).2.2 (z ▸ hrm'), nodup_snoc qnd nqs, fun n hn => ?_, fun z => by rw [List.length_append, qlen z] <;> rfl, F _ _ (fun z => qrs (z ▸ hrm')) (keep qp qc hq9), (hqx9.tk tk911).tk (F.tk so), F _ _ (fun z => q2rs (z ▸ hrm')) (keep q2p q2c hq29), (hqx29.tk tk911).tk (F.tk so), q2p, q2c, q2rs⟩
                · have eqs : (qs ++ [x.2]).map (fun n => ((((t + 1 : Nat) : Int), r1, n) : Pass)) = qs.map (fun n => ((((t + 1 : Nat) : Int), r1, n) : Pass)) ++ [(((t + 1 : Nat) : Int), r1, x.2)] := by rw [List.map_append] <;> rfl
                  rw [eqs, ← List.append_assoc]
                  show RowsAt _ rp rs (putAll ((t + 1 : Nat) : Int) rows ((ps ++ qs.map fun n => (((t + 1 : Nat) : Int), r1, n)) ++ [(((t + 1 : Nat) : Int), r1, x.2)]))
                  rw [put_snoc]
                  exact hR11
                · rw [take_snoc hoi, List.map_append]
                  rcases List.mem_append.mp hn with hn | hn
                  · exact List.mem_append_left _ (qin n hn)
                  · rw [List.mem_singleton.mp hn]
                    exact List.mem_append_right _ (List.mem_singleton.mpr rfl)
              · have hR10 : RowsAt H10 rp rs (putAll ((t + 1 : Nat) : Int) rows (ps ++ qs.map fun n => (((t + 1 : Nat) : Int), r1, n))) := hR9.fk2 dn10.fk (fun z => z.elim (hrn rp hrp).1 (hrn rp hrp).2) fun r hr z => z.elim (hrn r (hrs r hr)).1 (hrn r (hrs r hr)).2
                have tk910 : Tk H9 H10 := dn10.tk dn9.at_
                refine ⟨qs, _, _, rfl, dn9.trans dn10, hR10, dn10.fr _ _ (hrn kl kl0).1 (hrn kl kl0).2 hkl9, dr9.fk dn10.fk dn9.at_.so fun e he z => z.elim (es0 e he).1 (es0 e he).2.1, qnd, fun n hn => ?_, (fun z => by cases hb z), dn10.fr _ _ qp qc hq9, hqx9.tk tk910, dn10.fr _ _ q2p q2c hq29, hqx29.tk tk910, q2p, q2c, q2rs⟩
                rw [take_snoc hoi, List.map_append]
                exact List.mem_append_left _ (qin n hn)
          · obtain ⟨qs, o11, o12, rfl, dn9, hR9, hkl9, dr9, qnd, qin, qlen, hq9, hqx9, _⟩ := g
            rw [List.length_map] at qin qlen
            have qmem : ∀ n ∈ qs, n ∈ nums W ls rows ((t + 1 : Nat) : Int) ls.length (r0 : Int) := fun n hn => by
              obtain ⟨y, hy, rfl⟩ := List.mem_map.mp (qin n hn)
              exact hord.mem_iff.mp (List.mem_map.mpr ⟨y, List.mem_of_mem_take hy, rfl⟩)
            have em : List.map (fun x : Pass => x.2.2) (qs.map fun n => (((t + 1 : Nat) : Int), r0, n)) = qs := by
              rw [List.map_map]
              exact List.map_id' _
            refine ⟨ps ++ qs.map fun n => (((t + 1 : Nat) : Int), r0, n), _, _, _, _, rfl, dn9, hR9, hkl9, dr9, ?_, fun x hx => ?_, fun h60 _ => ?_, hq9, hqx9, qp, qc, qrs⟩
            · rw [List.map_append, em, List.nodup_append]
              refine ⟨nd, qnd, fun n1 hn1 n2 hn2 e => ?_⟩
              subst e
              obtain ⟨y, hy, ey⟩ := List.mem_map.mp hn1
              obtain ⟨y1, y2⟩ := hps y hy
              obtain ⟨_, r2, hdue2, er2⟩ := numsG_mem y1
              obtain ⟨_, r1, hdue, er1⟩ := numsG_mem (qmem n1 hn2)
              rw [show y.2.2 = n1 from ey, hdue] at hdue2
              have e12 : r1 = r2 := Option.some.inj hdue2
              obtain ⟨j', hj'⟩ := List.mem_iff_getElem?.mp y2
              have hlt : j' < j := by
                have := (List.getElem?_eq_some_iff.mp hj').1
                rw [List.length_take] at this
                omega
              rw [List.getElem?_take, if_pos hlt, ← er2, ← e12, er1] at hj'
              have := nd_ix lnd hj' hrj
              omega
            · rcases List.mem_append.mp hx with hx | hx
              · obtain ⟨a1, a2⟩ := hps x hx
                exact ⟨a1, by rw [take_snoc hrj]; exact List.mem_append_left _ a2⟩
              · obtain ⟨n, hn, rfl⟩ := List.mem_map.mp hx
                exact ⟨qmem n hn, by rw [take_snoc hrj]; exact List.mem_append_right _ (List.mem_singleton.mpr rfl)⟩
            · intro z
              have z2 := (List.append_eq_nil_iff.mp z).2
              have z3 : qs = [] := List.map_eq_nil_iff.mp z2
              have ql := qlen h60
              have ol : 0 < ord.length := by
                have := hord.length_eq
                rw [List.length_map] at this
                have := List.length_pos_iff.mpr hnr
                omega
              rw [z3, List.length_nil, List.length_take] at ql
              have k1 : 1 ≤ (W.rooms.getD r0 0).toNat := by omega
              omega
      · obtain ⟨ps, o8, o10, o11, o12, rfl, dn, hR, hkl, dr, nd, hps, hne, _⟩ := g
        rw [List.length_map] at hne
        refine ⟨_, _, _, _, _, _, _, rfl, dn, hR, led_step S lo wok ⟨nd, fun x hx => (hps x hx).1, fun h60 r hr => hne (by omega) ?_⟩, hkl⟩
        have hk := (sortI_perm (es.map (·.1))).mem_iff.mpr (dr.has r hr)
        exact List.length_pos_of_mem hk
    · obtain ⟨rows, o6, o7, o8, o10, o11, o12, rfl, dn, hR, S, hkl⟩ := q
      have en : ((400 : Int) - 1).toNat = 399 := by decide
      rw [en] at S
      have home := led_home S lo
      refine s_retD (ed_tupleOf (eld_rows (ev_var rfl) hR (fun _ => rfl) (fun _ => rfl) (fun _ _ _ q => q) (by rw [S.len]; omega)).es) fun v H5 e5 hv => k v H5 rows (dn.ex e5) hv S.len fun i hi => ⟨S.ok i hi, home i hi, S.top i hi⟩
end
end Z
/-! Le: _law_cards. -/
namespace Z
open PySem PySem.Spec PyProof.Rows L2 Evl

abbrev Quad := Nat × Int × Nat × Nat
def dQ (q : Quad) : PyData := .tuple [iN q.1, .int q.2.1, iN q.2.2.1, iN q.2.2.2]
def quadOf (ls : List Let) (hs : List (List Int)) (n k : Nat) : Quad := ((ls.getD n ([], 0)).1.getD k 0, (hs.getD n []).getD k 0, n, k)
def quadsN (ls : List Let) (hs : List (List Int)) (n j : Nat) : List Quad := (List.range j).map (quadOf ls hs n)
def quadsTo (ls : List Let) (hs : List (List Int)) (i : Nat) : List Quad := (List.range i).flatMap fun n => quadsN ls hs n (ls.getD n ([], 0)).1.length
theorem quadsTo_succ (ls : List Let) (hs : List (List Int)) (i : Nat) : quadsTo ls hs (i + 1) = quadsTo ls hs i ++ quadsN ls hs i (ls.getD i ([], 0)).1.length := by
  unfold quadsTo
  rw [List.range_succ, List.flatMap_append, List.flatMap_singleton]
theorem quadsN_succ (ls : List Let) (hs : List (List Int)) (n j : Nat) : quadsN ls hs n (j + 1) = quadsN ls hs n j ++ [quadOf ls hs n j] := by
  unfold quadsN
  rw [List.range_succ, List.map_append] <;> rfl
theorem quads_len {W : Web} {ls : List Let} {hs : List (List Int)} (lo : LetsOk W ls) : ∀ i, i ≤ ls.length → (quadsTo ls hs i).length ≤ 4 * i
  | 0, _ => Nat.le_refl _
  | i + 1, h => by
    have ih := quads_len (hs := hs) lo i (by omega)
    have h4 := (lo.ok _ (getD_mem (x := ([], 0)) (by omega : i < ls.length))).l4
    rw [quadsTo_succ, List.length_append]
    unfold quadsN
    rw [List.length_map, List.length_range]
    omega
theorem quads_mem {ls : List Let} {hs : List (List Int)} {n k : Nat} (hn : n < ls.length) (hk : k < (ls.getD n ([], 0)).1.length) : quadOf ls hs n k ∈ quadsTo ls hs ls.length :=
  List.mem_flatMap.mpr ⟨n, List.mem_range.mpr hn, List.mem_map.mpr ⟨k, List.mem_range.mpr hk, rfl⟩⟩
theorem al_Q {l : List Quad} : PySem.W.AllAlike (l.map dQ) := .of fun b b' => by simp [dQ, PySem.W.alike, PySem.W.alikeAll]
theorem so_Q {l : List Quad} : PySem.W.Sortable (l.map dQ) := .tuples fun b => ⟨_, _, rfl⟩
theorem de_Q (p : Quad) : (dQ p).depth ≤ 8 := by simp [dQ, PyData.depth, PyData.depthAll]
/-- a card of a letter -/
structure CardIs (hours : Bool) (lot : List Nat) (l : Let) (h : List Int) (c : Card) : Prop where
  way : c.way = l.1
  come : c.come = l.2
  home : c.home = h.getLastD 0
  len : c.told.length = l.1.length
  told : ∀ k, k < l.1.length → ∃ i : Int, c.told.getD k none = (if l.1.getD k 0 ∈ lot then some i else none) ∧ (hours = true → i = h.getD k 0) ∧ (hours = false → 0 ≤ i)
def spCards : Sp := fun vs H Q _ => ∃ (a : Addr) (lv hv lotv : V) (W : Web) (ls : List Let) (hs : List (List Int)) (lot : List Nat) (hours : Bool), vs = [.ref a, lv, hv, lotv, .str (sortS hours)] ∧ Dt H (dLets ls) lv ∧ Dt H (dHours hs) hv ∧ Dt H (dWay lot) lotv ∧ LetsOk W ls ∧ hs.length = ls.length ∧ (∀ i, i < ls.length → (hs.getD i []).length = (ls.getD i ([], 0)).1.length) ∧
  ∀ v H' cs, Ex H H' → Dt H' (dCards cs) v → cs.length = ls.length → (∀ i, i < ls.length → CardIs hours lot (ls.getD i ([], 0)) (hs.getD i []) (cs.getD i card0)) → Q v H'
theorem put_len2 {κ : Type} [DecidableEq κ] (kvs : List (κ × V)) (k : κ) (v : V) : (putK kvs k v).length ≤ kvs.length + 1 := by
  unfold putK
  split
  · rw [List.length_map]
    omega
  · rw [List.length_append]
    exact Nat.le_refl _
section
variable {K : PySem.W.Frag} {σ : L2.St} {H H' : Hp} {ta tb te td : TE} {d b : Addr} {o : HO}
theorem tkD {kvs : List (L2.Key × V)} (h : H d = some (.dK kvs)) : Tk H (upd H d o) := fun a ys q => rd_upd q (rd_ne q h (fun z => by cases z) (fun _ z => by cases z))
theorem tkT {kvs : List (List L2.Key × V)} (h : H d = some (.dT kvs)) : Tk H (upd H d o) := fun a ys q => rd_upd q (rd_ne q h (fun z => by cases z) (fun _ z => by cases z))
/-- d.get(r, 0), a dict of whole numbers -/
def NonNeg (cvs : List (L2.Key × V)) : Prop := ∀ k v, valV cvs k = some v → ∃ m : Int, v = .int m ∧ 0 ≤ m
theorem ev_get0 {cvs : List (L2.Key × V)} {r : Int} (ha : Ev td σ H (.ref d)) (hd : H d = some (.dK cvs)) (hr : Ev tb σ H (.int r)) (hn : NonNeg cvs) : ∃ m : Int, 0 ≤ m ∧ Ev (tDGet2 td tb (tC (.int 0))) σ H (.int m) := by
  cases e : valV cvs (.inl r) with
  | none => exact ⟨0, Int.le_refl _, fun H1 e1 Q q => ha H1 e1 _ fun H2 e2 => ⟨d, rfl, .inl ⟨_, .inl (e2 _ _ (e1 _ _ hd))⟩, hr H2 (e1.trans e2) _ fun H3 e3 => ⟨none, .inl ⟨cvs, .inl r, .inl (e3 _ _ (e2 _ _ (e1 _ _ hd))), rfl, e.symm⟩, q H3 (e2.trans e3)⟩⟩⟩
  | some v =>
    obtain ⟨m, rfl, hm⟩ := hn _ _ e
    exact ⟨m, hm, fun H1 e1 Q q => ha H1 e1 _ fun H2 e2 => ⟨d, rfl, .inl ⟨_, .inl (e2 _ _ (e1 _ _ hd))⟩, hr H2 (e1.trans e2) _ fun H3 e3 => ⟨some (.int m), .inl ⟨cvs, .inl r, .inl (e3 _ _ (e2 _ _ (e1 _ _ hd))), rfl, e.symm⟩, q H3 (e2.trans e3)⟩⟩⟩
end
section
variable {K : PySem.W.Frag} {σ : L2.St} {H H' : Hp} {ta tb te td t1 t2 tv : TE} {d : Addr} {v : V} {D : Ends} {tz : TS} {n m r : Int} {kvs : List (List L2.Key × V)} {cvs : List (L2.Key × V)}
theorem s_dputK (hv : Ev tv σ H v) (ha : Ev td σ H (.ref d)) (hr : Ev tb σ H (.int r)) (hd : H d = some (.dK cvs)) (hl : cvs.length < 100000) (k : ∀ H1, Ex H H1 → D.nx σ (upd H1 d (.dK (putK cvs (.inl r) v)))) : sDPut td tb tv D σ H :=
  hv H (Ex.refl H) _ fun H1 e1 => ha H1 e1 _ fun H2 e2 => hr H2 (e1.trans e2) _ fun H3 e3 => ⟨d, _, rfl, .inl ⟨cvs, .inl r, e3 _ _ (e2 _ _ (e1 _ _ hd)), rfl, by rw [sizeLine_eq]; omega, rfl⟩, k H3 ((e1.trans e2).trans e3)⟩
theorem q_dputT (hv : Ev tv σ H v) (ha : Ev td σ H (.ref d)) (h1 : Ev t1 σ H (.int n)) (h2 : Ev t2 σ H (.int m)) (hd : H d = some (.dT kvs)) (hl : kvs.length < 100000) (k : ∀ H1, Ex H H1 → tz D σ (upd H1 d (.dT (putK kvs [.inl n, .inl m] v)))) : tSeq (sDPut td (tTup (tCons t1 (tCons t2 tNil))) tv) tz D σ H :=
  hv H (Ex.refl H) _ fun H1 e1 => ha H1 e1 _ fun H2 e2 => h1 H2 (e1.trans e2) _ fun H3 e3 => h2 H3 ((e1.trans e2).trans e3) _ fun H4 e4 => ⟨by show 2 ≤ sizeLine; decide, fun b hb => by
    have e := (((e1.trans e2).trans e3).trans e4).trans (Ex.new hb (o := .tup [.int n, .int m]))
    exact ⟨d, _, rfl, .inr ⟨kvs, [.inl n, .inl m], b, e _ _ hd, rfl, upd_same, by rw [sizeLine_eq]; omega, rfl⟩, k _ e⟩⟩
theorem ev_dgetT (ha : Ev td σ H (.ref d)) (h1 : Ev t1 σ H (.int n)) (h2 : Ev t2 σ H (.int m)) (hd : H d = some (.dT kvs)) (hk : valV kvs [.inl n, .inl m] = some v) : Ev (tDGet td (tTup (tCons t1 (tCons t2 tNil)))) σ H v := fun H0 e0 Q q =>
  ha H0 e0 _ fun H2 e2 => h1 H2 (e0.trans e2) _ fun H3 e3 => h2 H3 ((e0.trans e2).trans e3) _ fun H4 e4 => ⟨by show 2 ≤ sizeLine; decide, fun b hb => by
    have e := ((e2.trans e3).trans e4).trans (Ex.new hb (o := .tup [.int n, .int m]))
    exact ⟨d, v, rfl, .inr ⟨kvs, [.inl n, .inl m], b, .inl (e _ _ (e0 _ _ hd)), rfl, upd_same, hk.symm⟩, q _ e⟩⟩
end
abbrev s_l_cards : Stmt := top 45
abbrev N_l_cards : List Str := ["_law_web_here", "_law_letters", "_law_hours", "_law_lot_here", "_law_sort", "_law_turn", "_law_passed", "_law_number", "_law_counts", "_law_found", "_law_k", "_law_road", "_law_hour", "_law_told", "_law_way", "_law_come", "_law_item"]
theorem sc_l_cards : FnScope N_l_cards ["_law_web_here", "_law_letters", "_law_hours", "_law_lot_here", "_law_sort"] (defScope s_l_cards) := ⟨rfl, rfl, rfl, by decide +kernel, rfl, by decide +kernel, by decide +kernel⟩
section
variable {P : Program} {w : World} {K : PySem.W.Frag} {mg : Str → Option Value} {base : Heap} {f : Addr} {fd : FuncData}
theorem ok_l_cards (F : Fun K "_law_cards" "_law_cards" s_l_cards f fd) (B : Bl mg) : FnOk P w K mg base CX0 1 f fd ["_law_web_here", "_law_letters", "_law_hours", "_law_lot_here", "_law_sort"] spCards := by
  refine F.ok sc_l_cards (fun vs H Q E h => ?_) (fun cdv A outer s H vs Q E hr h => ?_)
  · obtain ⟨a, lv, hv, lotv, W, ls, hs, lot, hours, rfl, _⟩ := h
    rfl
  · obtain ⟨a, lv, hv, lotv, W, ls, hs, lot, hours, rfl, hl, hh, hlot, lo, hsl, hsn, k⟩ := h
    have hu64 := hr.units
    have hu := hu_of hr
    refine ⟨_, (pss_cons (ps_set (i := 5) sc_l_cards.nd rfl (.inl rfl) pe_dnewT)
    (pss_cons (ps_set (i := 6) sc_l_cards.nd rfl (.inl rfl) (pe_lst pa_nil))
    (pss_cons (ps_for PassesOwn.never rfl (pi_range1 (by rfl) B.range (pa_cons (pe_callB (kLen (K := K)) (by rfl) B.len b_len (pa_cons (pv 1) pa_nil)) pa_nil)) (pg_name (i := 7) sc_l_cards.nd rfl (.inl rfl))
    (pss_one (ps_for PassesOwn.never rfl (pi_range1 (by rfl) B.range (pa_cons (pe_callB (kLen (K := K)) (by rfl) B.len b_len (pa_cons (pe_ix (kIx (K := K)) (pe_ix (kIx (K := K)) (pv 1) (pv 7) (fun _ _ => rfl)) pe_int (fun _ _ => rfl)) pa_nil)) pa_nil)) (pg_name (i := 10) sc_l_cards.nd rfl (.inl rfl))
      (pss_one (ps_expr (pe_bm PySem.F.plainAttrs_list PySem.F.slot_list_append PySem.F.type_list_append mt_append (pv 6) (pa_cons (pe_tup (pa_cons (pe_ix (kIx (K := K)) (pe_ix (kIx (K := K)) (pe_ix (kIx (K := K)) (pv 1) (pv 7) (fun _ _ => rfl)) pe_int (fun _ _ => rfl)) (pv 10) (fun _ _ => rfl)) (pa_cons (pe_ix (kIx (K := K)) (pe_ix (kIx (K := K)) (pv 2) (pv 7) (fun _ _ => rfl)) (pv 10) (fun _ _ => rfl)) (pa_cons (pv 7) (pa_cons (pv 10) pa_nil))))) pa_nil)))))))
    (pss_cons (ps_set (i := 8) sc_l_cards.nd rfl (.inl rfl) pe_dnewK)
    (pss_cons (ps_for PassesOwn.never rfl (k_sq (K := K) (pe_callB (kSortD (K := K) hu64) (by rfl) B.sorted b_sorted (pa_cons (pv 6) pa_nil))) (k_tup (K := K) (n := 4) (by rfl) (pgs_cons (pg_name (i := 11) sc_l_cards.nd rfl (.inl rfl)) (pgs_cons (pg_name (i := 12) sc_l_cards.nd rfl (.inl rfl)) (pgs_cons (pg_name (i := 7) sc_l_cards.nd rfl (.inl rfl)) (pgs_cons (pg_name (i := 10) sc_l_cards.nd rfl (.inl rfl)) pgs_nil)))))
    (pss_cons (ps_dput hu (pv 5) (pe_tup (pa_cons (pv 7) (pa_cons (pv 10) pa_nil))) (pe_dget2 hu (pv 8) (pv 11) pe_int ⟨rfl, rfl, rfl, rfl⟩) rfl)
      (pss_one (ps_dput hu (pv 8) (pv 11) (pe_op (kAdd (K := K)) (pe_dget2 hu (pv 8) (pv 11) pe_int ⟨rfl, rfl, rfl, rfl⟩) pe_int) rfl))))
    (pss_cons (ps_set (i := 9) sc_l_cards.nd rfl (.inl rfl) (pe_lst pa_nil))
    (pss_cons (ps_for PassesOwn.never rfl (pi_range1 (by rfl) B.range (pa_cons (pe_callB (kLen (K := K)) (by rfl) B.len b_len (pa_cons (pv 1) pa_nil)) pa_nil)) (pg_name (i := 7) sc_l_cards.nd rfl (.inl rfl))
    (pss_cons (ps_asg (pe_ix (kIx (K := K)) (pv 1) (pv 7) (fun _ _ => rfl)) (k_tup (K := K) (n := 2) (by rfl) (pgs_cons (pg_name (i := 14) sc_l_cards.nd rfl (.inl rfl)) (pgs_cons (pg_name (i := 15) sc_l_cards.nd rfl (.inl rfl)) pgs_nil))))
      (pss_cons (ps_set (i := 13) sc_l_cards.nd rfl (.inl rfl) (pe_lst pa_nil))
      (pss_cons (ps_for PassesOwn.never rfl (pi_range1 (by rfl) B.range (pa_cons (pe_callB (kLen (K := K)) (by rfl) B.len b_len (pa_cons (pv 14) pa_nil)) pa_nil)) (pg_name (i := 10) sc_l_cards.nd rfl (.inl rfl))
      (pss_cons (ps_set (i := 16) sc_l_cards.nd rfl (.inl rfl) (pe_ifExp (pt_cmpR (kEq (K := K) hu64) (pv 4) pe_str (nomark _)) (pe_ix (kIx (K := K)) (pe_ix (kIx (K := K)) (pv 2) (pv 7) (fun _ _ => rfl)) (pv 10) (fun _ _ => rfl)) (pe_dget hu (pv 5) (pe_tup (pa_cons (pv 7) (pa_cons (pv 10) pa_nil))) (fun _ _ => rfl))))
        (pss_one (ps_expr (pe_bm PySem.F.plainAttrs_list PySem.F.slot_list_append PySem.F.type_list_append mt_append (pv 13) (pa_cons (pe_ifExp (pt_cmpR (kIn (K := K)) (pe_ix (kIx (K := K)) (pv 14) (pv 10) (fun _ _ => rfl)) (pv 3) (by rfl)) (pv 16) pe_non) pa_nil))))))
      (pss_one (ps_expr (pe_bm PySem.F.plainAttrs_list PySem.F.slot_list_append PySem.F.type_list_append mt_append (pv 9) (pa_cons (pe_tup (pa_cons (pv 14) (pa_cons (pv 15) (pa_cons (pe_ix (kIx (K := K)) (pe_ix (kIx (K := K)) (pv 2) (pv 7) (fun _ _ => rfl)) (pe_un oNeg pe_int) (fun _ _ => rfl)) (pa_cons (pe_callTy (kTup (K := K)) (by rfl) B.tuple b_tuple (pa_cons (pv 13) pa_nil)) pa_nil))))) pa_nil))))))))
    (pss_one (ps_ret (pe_callTy (kTup (K := K)) (by rfl) B.tuple b_tuple (pa_cons (pv 9) pa_nil))))))))))), ?_⟩
    have n10 := lo.n
    intro d1 hd1
    have ex1 : Ex H (upd H d1 (.dT [])) := Ex.new hd1
    have at1 : upd H d1 (.dT []) d1 = some (.dT []) := upd_same
    generalize upd H d1 (.dT []) = G1 at *
    refine q_asgLD (eld_lst ead_nil (by decide)) fun pa _ G2 hpa e2 at2 hx => ?_
    cases (hx : _ = [])
    have pa0 : H pa = none := fresh_back ex1 hpa
    have pad1 : pa ≠ d1 := fun z => by rw [z, at1] at hpa; cases hpa
    have ex2 := ex1.trans e2
    have at1 := e2 _ _ at1
    show tSeq _ _ _ [some (V.ref a), some lv, some hv, some lotv, some (.str (sortS hours)), some (.ref d1), some (.ref pa), none, none, none, none, none, none, none, none, none, none] _
    have eL : ∀ {H' : Hp} {σ : L2.St} {n : Nat}, Ex H H' → σ[1]? = some (some lv) → σ[7]? = some (some (.int (n : Int))) → n < ls.length → ED (tOp (rIx K) (tVar 1) (tVar 7)) σ H' (dLet (ls.getD n ([], 0))) := fun {H' σ n} e s1 s7 hn => ed_ixn (ED.es (ed_var s1 (hl.ex e))) (ev_var s7) (map_at hn)
    have eHr : ∀ {H' : Hp} {σ : L2.St} {n : Nat}, Ex H H' → σ[2]? = some (some hv) → σ[7]? = some (some (.int (n : Int))) → n < ls.length → ED (tOp (rIx K) (tVar 2) (tVar 7)) σ H' (dInts (hs.getD n [])) := fun {H' σ n} e s2 s7 hn => ed_ixn (ED.es (ed_var s2 (hh.ex e))) (ev_var s7) (map_at (by omega))
    -- what passed
    refine q_forR1 (n := (ls.length : Int)) (ea_cons (ev_lenM (f := dLet) (ED.es (ed_var rfl (hl.ex ex2)))) ea_nil) (by omega) (fun i σ' H' => ∃ o7 o10 xs, σ' = [some (V.ref a), some lv, some hv, some lotv, some (.str (sortS hours)), some (.ref d1), some (.ref pa), o7, none, none, o10, none, none, none, none, none, none] ∧ Ex H H' ∧ H' d1 = some (.dT []) ∧ H' pa = some (.lst xs) ∧ DtA H' ((quadsTo ls hs i).map dQ) xs) (fun G3 e3 => ⟨none, none, [], rfl, ex2.trans e3, e3 _ _ at1, e3 _ _ at2, rfl⟩) (fun i σ' G3 hi q => ?_) fun σ' G3 q => ?_
    · obtain ⟨o7, o10, xs, rfl, ex, a1, a2, hx⟩ := q
      have hi' : i < ls.length := by omega
      have lq := quads_len (hs := hs) lo i (by omega)
      have l4 := (lo.ok _ (getD_mem (x := ([], 0)) hi')).l4
      show tFor _ _ _ _ [some (V.ref a), some lv, some hv, some lotv, some (.str (sortS hours)), some (.ref d1), some (.ref pa), some (.int (i : Int)), none, none, o10, none, none, none, none, none, none] _
      refine s_forR1 (n := ((ls.getD i ([], 0)).1.length : Int)) (ea_cons (ev_lenM (f := iN) (ed_way (eL ex rfl rfl hi')).es) ea_nil) (by omega) (fun j σ' H' => ∃ o10 xs, σ' = [some (V.ref a), some lv, some hv, some lotv, some (.str (sortS hours)), some (.ref d1), some (.ref pa), some (.int (i : Int)), none, none, o10, none, none, none, none, none, none] ∧ Ex H H' ∧ H' d1 = some (.dT []) ∧ H' pa = some (.lst xs) ∧ DtA H' ((quadsTo ls hs i ++ quadsN ls hs i j).map dQ) xs) (fun G4 e4 => ⟨o10, xs, rfl, ex.trans e4, e4 _ _ a1, e4 _ _ a2, by
        show DtA G4 ((quadsTo ls hs i ++ []).map dQ) xs
        rw [List.append_nil]
        exact hx.ex e4⟩) (fun j σ' G4 hj q => ?_) fun σ' G4 q => ?_
      · obtain ⟨o10, xs, rfl, ex, a1, a2, hx⟩ := q
        have hj' : j < (ls.getD i ([], 0)).1.length := by omega
        have xl := hx.len
        rw [List.length_map, List.length_append] at xl
        unfold quadsN at xl
        rw [List.length_map, List.length_range] at xl
        show tDrop _ _ [some (V.ref a), some lv, some hv, some lotv, some (.str (sortS hours)), some (.ref d1), some (.ref pa), some (.int (i : Int)), none, none, some (.int (j : Int)), none, none, none, none, none, none] _
        refine s_appD (d := dQ (quadOf ls hs i j)) a2 (ev_var rfl) (ed_tup (ead_cons (edI (ev_road (ed_way (eL ex rfl rfl hi')) (ev_var rfl) hj')) (ead_cons (edI (ev_num (eHr ex rfl rfl hi') (ev_var rfl) (by rw [hsn i hi']; exact hj'))) (ead_cons (edI (ev_var rfl)) (ead_cons (edI (ev_var rfl)) ead_nil)))) (by show 4 ≤ 100000; decide)) (by omega) fun y G5 e5 hy => ?_
        have a25 := e5 _ _ a2
        have tk := Tk.mut (o := .lst (xs ++ [y])) a25
        refine ⟨_, xs ++ [y], rfl, Ex.mut (ex.trans e5) pa0, by rw [upd_ne pad1.symm]; exact e5 _ _ a1, upd_same, ?_⟩
        rw [quadsN_succ, ← List.append_assoc, List.map_append]
        exact ((hx.ex e5).tk tk).snoc (hy.tk tk)
      · obtain ⟨o10, xs, rfl, ex, a1, a2, hx⟩ := q
        rw [Int.toNat_natCast] at hx
        refine ⟨_, _, xs, rfl, ex, a1, a2, ?_⟩
        rw [quadsTo_succ]
        exact hx
    obtain ⟨o7, o10, pxs, rfl, ex3, at1, at2, hpx⟩ := q
    rw [Int.toNat_natCast] at hpx
    have pl := quads_len (hs := hs) lo ls.length (Nat.le_refl _)
    -- the turns
    intro d2 hd2
    have d20 : H d2 = none := fresh_back ex3 hd2
    have d21 : d2 ≠ d1 := fun z => by rw [z, at1] at hd2; cases hd2
    have e4 : Ex G3 (upd G3 d2 (.dK [])) := Ex.new hd2
    have at3 : upd G3 d2 (.dK []) d2 = some (.dK []) := upd_same
    generalize upd G3 d2 (.dK []) = G4 at *
    have ex4 := ex3.trans e4
    show tSeq _ _ _ [some (V.ref a), some lv, some hv, some lotv, some (.str (sortS hours)), some (.ref d1), some (.ref pa), o7, some (.ref d2), none, o10, none, none, none, none, none, none] _
    refine q_forLD (ds := ((quadsTo ls hs ls.length).mergeSort (PySem.W.dataLe false dQ)).map dQ) (eld_sorted' (enc := dQ) (ev_var rfl) (e4 _ _ at2) (hpx.ex e4) al_Q so_Q fun b _ => de_Q b)
      (fun p xs j σ' H' => ∃ o7 o10 o11 o12 kvs cvs, σ' = [some (V.ref a), some lv, some hv, some lotv, some (.str (sortS hours)), some (.ref d1), some (.ref pa), o7, some (.ref d2), none, o10, o11, o12, none, none, none, none] ∧ Ex H H' ∧ H' d1 = some (.dT kvs) ∧ kvs.length ≤ j ∧ H' d2 = some (.dK cvs) ∧ cvs.length ≤ j ∧ NonNeg cvs ∧ (∀ x ∈ ((quadsTo ls hs ls.length).mergeSort (PySem.W.dataLe false dQ)).take j, ∃ m : Int, 0 ≤ m ∧ valV kvs [.inl (x.2.2.1 : Int), .inl (x.2.2.2 : Int)] = some (.int m)) ∧
        H' p = some (.lst xs) ∧ DtA H' (((quadsTo ls hs ls.length).mergeSort (PySem.W.dataLe false dQ)).map dQ) xs ∧ p ≠ d1 ∧ p ≠ d2)
      (fun p xs G5 hp0 e5 hp hx => ⟨o7, o10, none, none, [], [], rfl, ex4.trans e5, e5 _ _ (e4 _ _ at1), Nat.le_refl _, e5 _ _ at3, Nat.le_refl _, fun k v h => (by cases h), fun x hx => (by simp at hx), hp, hx, (fun z => by rw [z, e4 _ _ at1] at hp0; cases hp0), (fun z => by rw [z, at3] at hp0; cases hp0)⟩)
      (fun p xs j σ' H' _ ⟨_, _, _, _, _, _, _, _, _, _, _, _, _, _, q1, q2, _⟩ => ⟨q1, q2⟩) (fun p xs j dd v σ' G5 hdj hdv q => ?_) fun p xs σ' G5 q => ?_
    · obtain ⟨o7, o10, o11, o12, kvs, cvs, rfl, ex, a1, l1, a2, l2, nn, hin, hp, hx, pd1, pd2⟩ := q
      rw [List.getElem?_map] at hdj
      cases hqj : ((quadsTo ls hs ls.length).mergeSort (PySem.W.dataLe false dQ))[j]? with
      | none => rw [hqj] at hdj; cases hdj
      | some x =>
        rw [hqj] at hdj
        cases hdj
        have hjl : j < 4 * ls.length := by
          have := (List.getElem?_eq_some_iff.mp hqj).1
          rw [List.length_mergeSort] at this
          omega
        refine g_tup hdv rfl fun ws hws => ?_
        obtain ⟨v1, _, rfl, hv1, v2, _, rfl, hv2, v3, _, rfl, hv3, v4, _, rfl, hv4, hr5⟩ := hws
        cases (hr5 : _ = [])
        cases (hv1 : v1 = .int (x.1 : Int))
        cases (hv2 : v2 = .int x.2.1)
        cases (hv3 : v3 = .int (x.2.2.1 : Int))
        cases (hv4 : v4 = .int (x.2.2.2 : Int))
        refine ⟨_, _, rfl, _, _, rfl, _, _, rfl, _, _, rfl, rfl, ?_⟩
        show tSeq _ _ _ [some (V.ref a), some lv, some hv, some lotv, some (.str (sortS hours)), some (.ref d1), some (.ref pa), some (.int (x.2.2.1 : Int)), some (.ref d2), none, some (.int (x.2.2.2 : Int)), some (.int (x.1 : Int)), some (.int x.2.1), none, none, none, none] _
        obtain ⟨m, hm, hev⟩ := ev_get0 (td := tVar 8) (tb := tVar 11) (σ := [some (V.ref a), some lv, some hv, some lotv, some (.str (sortS hours)), some (.ref d1), some (.ref pa), some (.int (x.2.2.1 : Int)), some (.ref d2), none, some (.int (x.2.2.2 : Int)), some (.int (x.1 : Int)), some (.int x.2.1), none, none, none, none]) (ev_var rfl) a2 (ev_var rfl) nn
        refine q_dputT hev (ev_var rfl) (ev_var rfl) (ev_var rfl) a1 (by omega) fun G6 e6 => ?_
        have a1' : upd G6 d1 (.dT (putK kvs [.inl (x.2.2.1 : Int), .inl (x.2.2.2 : Int)] (.int m))) d1 = some (.dT (putK kvs [.inl (x.2.2.1 : Int), .inl (x.2.2.2 : Int)] (.int m))) := upd_same
        have a2' : upd G6 d1 (.dT (putK kvs [.inl (x.2.2.1 : Int), .inl (x.2.2.2 : Int)] (.int m))) d2 = some (.dK cvs) := by rw [upd_ne d21]; exact e6 _ _ a2
        have hp' : upd G6 d1 (.dT (putK kvs [.inl (x.2.2.1 : Int), .inl (x.2.2.2 : Int)] (.int m))) p = some (.lst xs) := by rw [upd_ne pd1]; exact e6 _ _ hp
        have hx' := (hx.ex e6).tk (tkT (o := .dT (putK kvs [.inl (x.2.2.1 : Int), .inl (x.2.2.2 : Int)] (.int m))) (e6 _ _ a1))
        have ex' : Ex H (upd G6 d1 (.dT (putK kvs [.inl (x.2.2.1 : Int), .inl (x.2.2.2 : Int)] (.int m)))) := Ex.mut (ex.trans e6) hd1
        generalize upd G6 d1 (.dT (putK kvs [.inl (x.2.2.1 : Int), .inl (x.2.2.2 : Int)] (.int m))) = G7 at *
        obtain ⟨m2, hm2, hev2⟩ := ev_get0 (td := tVar 8) (tb := tVar 11) (σ := [some (V.ref a), some lv, some hv, some lotv, some (.str (sortS hours)), some (.ref d1), some (.ref pa), some (.int (x.2.2.1 : Int)), some (.ref d2), none, some (.int (x.2.2.2 : Int)), some (.int (x.1 : Int)), some (.int x.2.1), none, none, none, none]) (ev_var rfl) a2' (ev_var rfl) nn
        refine s_dputK (ev_add hev2 ev_c) (ev_var rfl) (ev_var rfl) a2' (by omega) fun G8 e8 => ?_
        have tk8 := tkD (o := .dK (putK cvs (.inl (x.1 : Int)) (.int (m2 + 1)))) (e8 _ _ a2')
        refine ⟨_, _, _, _, _, _, rfl, Ex.mut (ex'.trans e8) d20, by rw [upd_ne d21.symm]; exact e8 _ _ a1', Nat.le_trans (put_len2 _ _ _) (by omega), upd_same, Nat.le_trans (put_len2 _ _ _) (by omega), fun key v hkv => ?_, fun y hy => ?_, by rw [upd_ne pd2]; exact e8 _ _ hp', (hx'.ex e8).tk tk8, pd1, pd2⟩
        · rw [valV_put] at hkv
          split at hkv
          · exact ⟨m2 + 1, (Option.some.inj hkv).symm, by omega⟩
          · exact nn key v hkv
        · rw [valV_put]
          by_cases he : ([.inl (y.2.2.1 : Int), .inl (y.2.2.2 : Int)] : List L2.Key) = [.inl (x.2.2.1 : Int), .inl (x.2.2.2 : Int)]
          · rw [if_pos he]
            exact ⟨m, hm, rfl⟩
          · rw [if_neg he]
            rw [take_snoc hqj] at hy
            rcases List.mem_append.mp hy with hy | hy
            · exact hin y hy
            · rw [List.mem_singleton.mp hy] at he
              exact absurd rfl he
    · obtain ⟨o7, o10, o11, o12, kvs, cvs, rfl, ex5, a1, l1, a2, l2, nn, hin, _⟩ := q
      rw [List.length_map, List.take_length] at hin
      have hturn : ∀ n j, n < ls.length → j < (ls.getD n ([], 0)).1.length → ∃ m : Int, 0 ≤ m ∧ valV kvs [.inl (n : Int), .inl (j : Int)] = some (.int m) := fun n j hn hj => hin (quadOf ls hs n j) ((List.mergeSort_perm _ _).mem_iff.mpr (quads_mem hn hj))
      -- the cards
      refine q_asgLD (eld_lst ead_nil (by decide)) fun fa _ G6 hfa e6 at6 hx => ?_
      cases (hx : _ = [])
      have fa0 : H fa = none := fresh_back ex5 hfa
      have fad1 : fa ≠ d1 := fun z => by rw [z, a1] at hfa; cases hfa
      have ex6 := ex5.trans e6
      have a1 := e6 _ _ a1
      show tSeq _ _ _ [some (V.ref a), some lv, some hv, some lotv, some (.str (sortS hours)), some (.ref d1), some (.ref pa), o7, some (.ref d2), some (.ref fa), o10, o11, o12, none, none, none, none] _
      refine q_forR1 (n := (ls.length : Int)) (ea_cons (ev_lenM (f := dLet) (ED.es (ed_var rfl (hl.ex ex6)))) ea_nil) (by omega) (fun i σ' H' => ∃ (o7 o10 o13 o14 o15 o16 : Option V) (xs : List V) (cs : List Card), σ' = [some (V.ref a), some lv, some hv, some lotv, some (.str (sortS hours)), some (.ref d1), some (.ref pa), o7, some (.ref d2), some (.ref fa), o10, o11, o12, o13, o14, o15, o16] ∧ Ex H H' ∧ H' d1 = some (.dT kvs) ∧ H' fa = some (.lst xs) ∧ DtA H' (cs.map dCard) xs ∧ cs.length = i ∧ (∀ n, n < i → CardIs hours lot (ls.getD n ([], 0)) (hs.getD n []) (cs.getD n card0))) (fun G7 e7 => ⟨_, _, none, none, none, none, [], [], rfl, ex6.trans e7, e7 _ _ a1, e7 _ _ at6, rfl, rfl, fun n hn => absurd hn (Nat.not_lt_zero _)⟩) (fun i σ' G7 hi q => ?_) fun σ' G7 q => ?_
      · obtain ⟨o7, o10, o13, o14, o15, o16, xs, cs, rfl, ex7, b1, b2, hx, cl, hcs⟩ := q
        have hi' : i < ls.length := by omega
        have l4 := (lo.ok _ (getD_mem (x := ([], 0)) hi')).l4
        have w1 := (lo.ok _ (getD_mem (x := ([], 0)) hi')).way.l1
        have hsi := hsn i hi'
        show tSeq _ _ _ [some (V.ref a), some lv, some hv, some lotv, some (.str (sortS hours)), some (.ref d1), some (.ref pa), some (.int (i : Int)), some (.ref d2), some (.ref fa), o10, o11, o12, o13, o14, o15, o16] _
        refine q_asgTup (eL ex7 rfl rfl hi') rfl fun ws G8 e8 hws => ?_
        obtain ⟨wv, _, rfl, hwv, v2, _, rfl, hv2, hr3⟩ := hws
        cases (hr3 : _ = [])
        cases (hv2 : v2 = .int (ls.getD i ([], 0)).2)
        refine ⟨wv, _, rfl, _, _, rfl, rfl, ?_⟩
        show tSeq _ _ _ [some (V.ref a), some lv, some hv, some lotv, some (.str (sortS hours)), some (.ref d1), some (.ref pa), some (.int (i : Int)), some (.ref d2), some (.ref fa), o10, o11, o12, o13, some wv, some (.int (ls.getD i ([], 0)).2), o16] _
        refine q_asgLD (eld_lst ead_nil (by decide)) fun ta _ G9 hta e9 at9 hx9 => ?_
        cases (hx9 : _ = [])
        have ex8 := ex7.trans e8
        have ta0 : H ta = none := fresh_back ex8 hta
        have tad1 : ta ≠ d1 := fun z => by rw [z, e8 _ _ b1] at hta; cases hta
        have tafa : ta ≠ fa := fun z => by rw [z, e8 _ _ b2] at hta; cases hta
        have ex9 := ex8.trans e9
        have e79 := e8.trans e9
        have hwv9 := hwv.ex e9
        show tSeq _ _ _ [some (V.ref a), some lv, some hv, some lotv, some (.str (sortS hours)), some (.ref d1), some (.ref pa), some (.int (i : Int)), some (.ref d2), some (.ref fa), o10, o11, o12, some (.ref ta), some wv, some (.int (ls.getD i ([], 0)).2), o16] _
        refine q_forR1 (n := ((ls.getD i ([], 0)).1.length : Int)) (ea_cons (ev_lenM (f := iN) (ED.es (ed_var rfl hwv9))) ea_nil) (by omega) (fun j σ' H' => ∃ (o10 o16 : Option V) (txs : List V) (told : List (Option Int)), σ' = [some (V.ref a), some lv, some hv, some lotv, some (.str (sortS hours)), some (.ref d1), some (.ref pa), some (.int (i : Int)), some (.ref d2), some (.ref fa), o10, o11, o12, some (.ref ta), some wv, some (.int (ls.getD i ([], 0)).2), o16] ∧ Ex H H' ∧ H' d1 = some (.dT kvs) ∧ H' fa = some (.lst xs) ∧ DtA H' (cs.map dCard) xs ∧ Dt H' (dWay (ls.getD i ([], 0)).1) wv ∧ H' ta = some (.lst txs) ∧ DtA H' (told.map dOpt) txs ∧ told.length = j ∧
          (∀ k, k < j → ∃ z : Int, told.getD k none = (if (ls.getD i ([], 0)).1.getD k 0 ∈ lot then some z else none) ∧ (hours = true → z = (hs.getD i []).getD k 0) ∧ (hours = false → 0 ≤ z))) (fun G10 e10 => ⟨o10, o16, [], [], rfl, ex9.trans e10, e10 _ _ (e79 _ _ b1), e10 _ _ (e79 _ _ b2), (hx.ex e79).ex e10, hwv9.ex e10, e10 _ _ at9, rfl, rfl, fun k hk => absurd hk (Nat.not_lt_zero _)⟩) (fun j σ' G10 hj q => ?_) fun σ' G10 q => ?_
        · obtain ⟨o10, o16, txs, told, rfl, ex10, c1, c2, hx10, hwv10, c3, ht10, tl, htold⟩ := q
          have hj' : j < (ls.getD i ([], 0)).1.length := by omega
          show tSeq _ _ _ [some (V.ref a), some lv, some hv, some lotv, some (.str (sortS hours)), some (.ref d1), some (.ref pa), some (.int (i : Int)), some (.ref d2), some (.ref fa), some (.int (j : Int)), o11, o12, some (.ref ta), some wv, some (.int (ls.getD i ([], 0)).2), o16] _
          obtain ⟨z, hz1, hz2, hzv⟩ : ∃ z : Int, (hours = true → z = (hs.getD i []).getD j 0) ∧ (hours = false → 0 ≤ z) ∧ Ev (tIf (tTest (tOp (rEqA K) (tVar 4) (tC (.str "hours")))) (tOp (rIx K) (tOp (rIx K) (tVar 2) (tVar 7)) (tVar 10)) (tDGet (tVar 5) (tTup (tCons (tVar 7) (tCons (tVar 10) tNil))))) [some (V.ref a), some lv, some hv, some lotv, some (.str (sortS hours)), some (.ref d1), some (.ref pa), some (.int (i : Int)), some (.ref d2), some (.ref fa), some (.int (j : Int)), o11, o12, some (.ref ta), some wv, some (.int (ls.getD i ([], 0)).2), o16] G10 (.int z) := by
            cases hours with
            | true => exact ⟨_, fun _ => rfl, (fun z => by cases z), ev_if (b := true) (et_is (et_test (ev_eqS (ev_var rfl) ev_c)) (by decide +kernel)) (fun _ => ev_num (eHr ex10 rfl rfl hi') (ev_var rfl) (by rw [hsi]; exact hj')) (fun z => by cases z)⟩
            | false =>
              obtain ⟨m, hm, hval⟩ := hturn i j hi' hj'
              exact ⟨m, (fun z => by cases z), fun _ => hm, ev_if (b := false) (et_is (et_test (ev_eqS (ev_var rfl) ev_c)) (by decide +kernel)) (fun z => by cases z) (fun _ => ev_dgetT (ev_var rfl) (ev_var rfl) (ev_var rfl) c1 hval)⟩
          refine q_asg hzv fun G11 e11 => ?_
          show tDrop _ _ [some (V.ref a), some lv, some hv, some lotv, some (.str (sortS hours)), some (.ref d1), some (.ref pa), some (.int (i : Int)), some (.ref d2), some (.ref fa), some (.int (j : Int)), o11, o12, some (.ref ta), some wv, some (.int (ls.getD i ([], 0)).2), some (.int z)] _
          have txl := ht10.len
          rw [List.length_map] at txl
          refine s_appD (d := dOpt (if (ls.getD i ([], 0)).1.getD j 0 ∈ lot then some z else none)) (e11 _ _ c3) (ev_var rfl) (ed_if (et_test (ev_inN (ns := lot) (ev_road (ed_var rfl (hwv10.ex e11)) (ev_var rfl) hj') (ED.es (ed_var rfl (hlot.ex (ex10.trans e11)))))) (fun hb => ?_) (fun hb => ?_)) (by omega) fun y G12 e12 hy => ?_
          · rw [if_pos (of_decide_eq_true hb)]
            exact edI (ev_var rfl)
          · rw [if_neg (of_decide_eq_false hb)]
            exact edN ev_c
          have e1012 := e11.trans e12
          have c312 := e1012 _ _ c3
          have tk := Tk.mut (o := .lst (txs ++ [y])) c312
          refine ⟨_, _, txs ++ [y], told ++ [if (ls.getD i ([], 0)).1.getD j 0 ∈ lot then some z else none], rfl, Ex.mut (ex10.trans e1012) ta0, by rw [upd_ne tad1.symm]; exact e1012 _ _ c1, by rw [upd_ne tafa.symm]; exact e1012 _ _ c2, (hx10.ex e1012).tk tk, (hwv10.ex e1012).tk tk, upd_same, ?_, by rw [List.length_append, tl] <;> rfl, fun k hk => ?_⟩
          · rw [List.map_append]
            exact ((ht10.ex e1012).tk tk).snoc (hy.tk tk)
          · by_cases hkj : k < j
            · obtain ⟨z', q1, q2⟩ := htold k hkj
              refine ⟨z', ?_, q2⟩
              rw [List.getD_eq_getElem?_getD, List.getElem?_append_left (by omega), ← List.getD_eq_getElem?_getD]
              exact q1
            · have : k = told.length := by omega
              subst this
              refine ⟨z, ?_, ?_⟩
              · rw [List.getD_eq_getElem?_getD, List.getElem?_append_right (Nat.le_refl _), Nat.sub_self]
                rw [tl]
                rfl
              · rw [tl]
                exact ⟨hz1, hz2⟩
        · obtain ⟨o10, o16, txs, told, rfl, ex10, c1, c2, hx10, hwv10, c3, ht10, tl, htold⟩ := q
          rw [Int.toNat_natCast] at tl htold
          have xl := hx10.len
          rw [List.length_map] at xl
          refine s_appD (d := dCard ⟨(ls.getD i ([], 0)).1, (ls.getD i ([], 0)).2, (hs.getD i []).getLastD 0, told⟩) c2 (ev_var rfl) (ed_tup (ead_cons (ed_var rfl hwv10) (ead_cons (edI (ev_var rfl)) (ead_cons (edI (ED.ev (ed_ix (eHr ex10 rfl rfl hi').es (ev_neg ev_c) (ix_last (fun z => by rw [z, List.length_nil] at hsi; omega))))) (ead_cons (ed_tupleOf (es_list (ev_var rfl) c3 ht10)) ead_nil)))) (by show 4 ≤ 100000; decide)) (by omega) fun y G11 e11 hy => ?_
          have c211 := e11 _ _ c2
          have tk := Tk.mut (o := .lst (xs ++ [y])) c211
          refine ⟨_, _, _, _, _, _, xs ++ [y], cs ++ [⟨(ls.getD i ([], 0)).1, (ls.getD i ([], 0)).2, (hs.getD i []).getLastD 0, told⟩], rfl, Ex.mut (ex10.trans e11) fa0, by rw [upd_ne fad1.symm]; exact e11 _ _ c1, upd_same, ?_, by rw [List.length_append, cl] <;> rfl, fun n hn => ?_⟩
          · rw [List.map_append]
            exact ((hx10.ex e11).tk tk).snoc (hy.tk tk)
          · by_cases hni : n < i
            · rw [List.getD_eq_getElem?_getD (l := cs ++ _), List.getElem?_append_left (by omega), ← List.getD_eq_getElem?_getD]
              exact hcs n hni
            · have : n = i := by omega
              subst this
              rw [List.getD_eq_getElem?_getD (l := cs ++ _), List.getElem?_append_right (by omega), cl, Nat.sub_self]
              exact ⟨rfl, rfl, rfl, tl, htold⟩
      · obtain ⟨o7, o10, o13, o14, o15, o16, xs, cs, rfl, ex7, b1, b2, hx, cl, hcs⟩ := q
        rw [Int.toNat_natCast] at cl hcs
        exact s_retD (ed_tupleOf (es_list (ev_var rfl) b2 hx)) fun v G8 e8 hv => k v G8 cs (ex7.trans e8) hv cl hcs
end
end Z
/-! Lf: the cards of led letters are right; what stays at the law's level. -/
namespace Z
open PySem PySem.Spec PyProof.Rows L2 Evl LamX

theorem cardOk_of {W : Web} {hours : Bool} {lot : List Nat} {l : Let} {h : List Int} {c : Card} (ci : CardIs hours lot l h c) (lo : LetOk W l) : CardOk W lot c := by
  refine ⟨by rw [ci.way]; exact lo.way, ⟨by rw [ci.way]; exact ci.len, fun i hi => ?_⟩, by rw [ci.come]; exact lo.c1⟩
  rw [ci.way] at hi ⊢
  obtain ⟨z, h1, _⟩ := ci.told i hi
  rw [h1]
  split
  · exact ⟨fun _ => by assumption, fun _ => rfl⟩
  · exact ⟨(fun z => by cases z), fun z => by contradiction⟩
theorem could_yes {W : Web} {l : Let} {h : List Int} {told : List (Option Int)} (lo : LetOk W l) (hr : HrOk W l h) (hl : h.length = l.1.length) (tl : told.length = l.1.length) (ht : ∀ k, k < l.1.length → told.getD k none = none ∨ told.getD k none = some (h.getD k 0)) :
    couldB W l.1 l.2 (h.getLastD 0) told = true := by
  have w1 := lo.way.l1
  have key : ∀ p, p ≤ l.1.length → ∃ z, lowTo W l.1 told l.2 p = some z ∧ (p < l.1.length → z ≤ h.getD p 0) ∧ (p = l.1.length → z ≤ h.getLastD 0) := by
    intro p
    induction p with
    | zero => exact fun _ => ⟨l.2, rfl, fun _ => hr.first (fun z => by rw [z] at hl; simp at hl; omega), fun z => by omega⟩
    | succ p ih =>
      intro hp
      obtain ⟨z, h1, h2, _⟩ := ih (by omega)
      have h2 := h2 (by omega)
      have step : ∀ y, y ≤ h.getD p 0 → ∃ z', some (if (p : Int) < (l.1.length : Int) - 1 then y + W.times.getD (l.1.getD p 0) 0 else y) = some z' ∧ (p + 1 < l.1.length → z' ≤ h.getD (p + 1) 0) ∧ (p + 1 = l.1.length → z' ≤ h.getLastD 0) := by
        intro y hy
        refine ⟨_, rfl, fun hlt => ?_, fun he => ?_⟩
        · rw [if_pos (by omega)]
          have := hr.step p (by omega)
          omega
        · rw [if_neg (by omega), last_getD, show h.length - 1 = p by omega]
          exact hy
      unfold lowTo
      rw [h1]
      dsimp only
      rcases ht p (by omega) with e | e
      · rw [e]
        exact step z h2
      · rw [e]
        dsimp only
        rw [if_neg (by omega)]
        exact step _ (Int.le_refl _)
  obtain ⟨z, h1, _, h3⟩ := key l.1.length (Nat.le_refl _)
  unfold couldB
  rw [h1]
  have hz := h3 rfl
  have hlast : told.getLastD none = told.getD (l.1.length - 1) none := by
    rw [List.getLastD_eq_getLast?, List.getLast?_eq_getElem?, List.getD_eq_getElem?_getD, tl]
  have e2 : (decide (told.getLastD none = none) || decide (told.getLastD none = some (h.getLastD 0))) = true := by
    rw [hlast, last_getD, hl]
    rcases ht (l.1.length - 1) (by omega) with e | e
    · rw [e]
      rfl
    · rw [e]
      simp
  show (decide (z ≤ h.getLastD 0) && _) = true
  rw [decide_eq_true hz, e2] <;> rfl
theorem card_yes {W : Web} {hours : Bool} {lot : List Nat} {l : Let} {h : List Int} {c : Card} (ci : CardIs hours lot l h c) (lo : LetOk W l) (hr : HrOk W l h) (hl : h.length = l.1.length) : isCardB W hours c = true := by
  unfold isCardB
  rw [ci.way, ci.come, ci.home]
  cases hours with
  | true =>
    rw [if_pos rfl]
    refine could_yes lo hr hl ci.len fun k hk => ?_
    obtain ⟨z, h1, h2, _⟩ := ci.told k hk
    rw [h1, h2 rfl]
    split
    · exact .inr rfl
    · exact .inl rfl
  | false =>
    rw [if_neg (by decide)]
    have hn : c.told.any negB = false := by
      rw [List.any_eq_false]
      intro o ho
      obtain ⟨k, hk⟩ := List.mem_iff_getElem?.mp ho
      have hkl := (List.getElem?_eq_some_iff.mp hk).1
      rw [ci.len] at hkl
      obtain ⟨z, h1, _, h3⟩ := ci.told k hkl
      rw [List.getD_eq_getElem?_getD, hk] at h1
      have h1 : o = _ := h1
      rw [h1]
      have hz := h3 rfl
      split
      · show ¬ decide (z < 0) = true
        rw [decide_eq_false (by omega)]
        decide
      · show ¬ false = true
        decide
    rw [hn, Bool.not_false, Bool.true_and]
    refine could_yes lo hr hl (by rw [List.length_map]) fun k hk => .inl ?_
    rw [List.getD_eq_getElem?_getD, List.getElem?_map]
    cases l.1[k]? <;> rfl
theorem home_le {h : List Int} {b : Int} (hb : ∀ x ∈ h, x ≤ b) (h0 : 0 ≤ b) : h.getLastD 0 ≤ b := by
  by_cases e : h.length = 0
  · rw [List.eq_nil_of_length_eq_zero e]
    exact h0
  · exact last_le hb e

/-! ### what stays -/
structure Kp (T : List (Addr × Str)) (p c : Addr) (H H' : Hp) : Prop where
  fx : ∀ b o, b ≠ p → b ≠ c → (∀ ps, o ≠ .tbl ps) → H b = some o → H' b = some o
  at_ : PoolAt H' p c
  tabs : Tabs T H'
def Nt (o : HO) : Prop := ∀ ps, o ≠ .tbl ps
theorem nt_lst (xs : List V) : Nt (.lst xs) := fun ps z => by cases z
theorem nt_ext (φ : Heap → Prop) : Nt (.ext φ) := fun ps z => by cases z
section
variable {T : List (Addr × Str)} {p c l a m C : Addr} {H H1 H2 : Hp} {W : Web} {d : PyData} {v : V} {ds : List PyData} {xs vs : List V}
theorem Kp.refl (h : PoolAt H p c) (t : Tabs T H) : Kp T p c H H := ⟨fun _ _ _ _ _ h => h, h, t⟩
theorem Kp.trans (a : Kp T p c H H1) (b : Kp T p c H1 H2) : Kp T p c H H2 := ⟨fun x o h1 h2 n h => b.fx x o h1 h2 n (a.fx x o h1 h2 n h), b.at_, b.tabs⟩
theorem tabs_fk {S : Addr → Prop} (t : Tabs T H) (f : Fk S H H1) (s : So S H) : Tabs T H1 := fun q hq => by
  obtain ⟨ps, h1, h2, h3⟩ := t q hq
  refine ⟨ps, f.out s h1 (fun z => by rcases z with ⟨_, z⟩ | ⟨_, _, _, z⟩ <;> cases z), h2, fun pos cv hc => ?_⟩
  obtain ⟨e, e1, e2⟩ := h3 pos cv hc
  exact ⟨e, e1, f.out s e2 (fun z => by rcases z with ⟨_, z⟩ | ⟨_, _, _, z⟩ <;> cases z)⟩
theorem Kp.dn (h : PoolAt H p c) (t : Tabs T H) (d : Dn p c H H1) : Kp T p c H H1 := ⟨fun b o h1 h2 _ q => d.fr b o h1 h2 q, d.at_, tabs_fk t d.fk h.so⟩
theorem Kp.ex (h : PoolAt H p c) (t : Tabs T H) (e : Ex H H1) : Kp T p c H H1 := Kp.dn h t (Dn.of h e)
theorem Kp.more (k : Kp T p c H H1) (e : Ex H1 H2) : Kp T p c H H2 := k.trans (Kp.ex k.at_ k.tabs e)
theorem Kp.draw (k : Kp T p c H H1) (d : Dn p c H1 H2) : Kp T p c H H2 := k.trans (Kp.dn k.at_ k.tabs d)
theorem Kp.extN (h : PoolAt H p c) (e : ExtN H H1) (t : Tabs T H1) : Kp T p c H H1 := ⟨fun b o _ _ n q => e b o q n, by
  obtain ⟨z, n, cells, h1, h2, h3⟩ := h
  exact ⟨z, n, cells, e _ _ h1 (nt_lst _), e _ _ h2 (nt_lst _), h3⟩, t⟩
/-- behind a call that changes a list at l alone, l not known at H -/
theorem Kp.fr1 (k : Kp T p c H H1) (n1 : l ≠ p) (n2 : l ≠ c) (hl : ∀ o, H l = some o → Nt o → False) (hl1 : H1 l = some (.lst xs)) (f : Fr1 l H1 H2) : Kp T p c H H2 := by
  refine ⟨fun b o h1 h2 n q => f b o (fun z => ?_) (k.fx b o h1 h2 n q), ?_, tabs_fk (S := fun b => b = l) k.tabs f fun b u z q => ?_⟩
  · subst z
    exact hl o q n
  · obtain ⟨z, n, cells, h1, h2, h3⟩ := k.at_
    exact ⟨z, n, cells, f _ _ n1.symm h1, f _ _ n2.symm h2, h3⟩
  · subst z
    rw [hl1] at q
    cases q
    exact .inl ⟨_, rfl⟩
theorem Kp.fresh (k : Kp T p c H H1) (h : H1 l = none) : l ≠ p ∧ l ≠ c ∧ ∀ o, H l = some o → Nt o → False := by
  obtain ⟨n1, n2⟩ := k.at_.ne_new h
  refine ⟨n1, n2, fun o q n => ?_⟩
  rw [k.fx l o n1 n2 n q] at h
  cases h
theorem PoolAt.ne_of (h : PoolAt H p c) {b : Addr} {o : HO} (q : H b = some o) (n : ∀ xs, o ≠ .lst xs) : b ≠ p ∧ b ≠ c := by
  obtain ⟨z, m, cells, h1, h2, h3⟩ := h
  refine ⟨fun e => ?_, fun e => ?_⟩
  · rw [e, h1] at q
    exact n _ (Option.some.inj q).symm
  · rw [e, h2] at q
    exact n _ (Option.some.inj q).symm
theorem Kp.out (k : Kp T p c H H1) (hP : PoolAt H p c) {b : Addr} {o : HO} (q : H b = some o) (n : ∀ xs, o ≠ .lst xs) (nt : Nt o) : H1 b = some o := k.fx b o (hP.ne_of q n).1 (hP.ne_of q n).2 nt q
theorem Kp.tk (k : Kp T p c H H1) (hP : PoolAt H p c) : Tk H H1 := fun a ys q => by
  rcases q with q | ⟨o, q⟩
  · exact .inl (k.out hP q (fun _ z => by cases z) fun _ z => by cases z)
  · exact .inr ⟨o, k.out hP q (fun _ z => by cases z) fun _ z => by cases z⟩
theorem Kp.xk (k : Kp T p c H H1) (hP : PoolAt H p c) : Xk H H1 := fun b φ q => k.out hP q (fun _ z => by cases z) fun _ z => by cases z
theorem Kp.lst (k : Kp T p c H H1) (n1 : l ≠ p) (n2 : l ≠ c) (h : H l = some (.lst xs)) : H1 l = some (.lst xs) := k.fx _ _ n1 n2 (nt_lst _) h
theorem Kp.web (k : Kp T p c H H1) (hP : PoolAt H p c) (n1 : a ≠ p) (n2 : a ≠ c) (h : WebAt H a W) : WebAt H1 a W := by
  obtain ⟨vs, h1, h2⟩ := h
  exact ⟨vs, k.lst n1 n2 h1, h2.tk (k.tk hP)⟩
theorem Kp.made (k : Kp T p c H H1) (hP : PoolAt H p c) (h : MadeAt H C m W) : MadeAt H1 C m W := by
  obtain ⟨dx, vr, vm, vt, vn, vl, h1, h2, h3, h4, h5⟩ := h
  have tk := k.tk hP
  exact ⟨dx, vr, vm, vt, vn, vl, k.out hP h1 (fun _ z => by cases z) (fun _ z => by cases z), h2.tk tk, h3.tk tk, h4.tk tk, h5.tk tk⟩
theorem Kp.str {f : Addr} {L : LF} {o : Who} (k : Kp T p c H H1) (hP : PoolAt H p c) (n1 : a ≠ p) (n2 : a ≠ c) (h : StrAt H f L a o) : StrAt H1 f L a o := ⟨h.1, h.2.1.keep (k.xk hP), k.web hP n1 n2 h.2.2.1, h.2.2.2⟩
/-- new behind, new ahead -/
theorem Kp.back (k : Kp T p c H H1) (h : H1 l = none) (nt : ∀ o, H l = some o → Nt o) : H l = none := by
  cases q : H l with
  | none => rfl
  | some u =>
    obtain ⟨n1, n2⟩ := k.at_.ne_new h
    rw [k.fx l u n1 n2 (nt u q) q] at h
    cases h
/-- the maker of noted lambdas has made one -/
theorem notAt_of {f g : Addr} {L : LF} {o : Who} (hs : StrAt H g L a o) (al : a ≠ l) (e : ExtN H H1) (cn : CloN H H1 f wNot frN [.ref g, .ref l]) : ∃ N, NotAt H1 f g l a N L o := by
  obtain ⟨cl, c0, h1, h2⟩ := cn
  have wk : WebAt H1 a o.W := by
    obtain ⟨vs, q1, q2⟩ := hs.2.2.1
    refine ⟨vs, e _ _ q1 (nt_lst _), q2.tk fun x ys q => ?_⟩
    rcases q with q | ⟨o, q⟩
    · exact .inl (e _ _ q fun _ z => by cases z)
    · exact .inr ⟨o, e _ _ q fun _ z => by cases z⟩
  refine ⟨wNot.at cl c0, ⟨cl, c0, rfl⟩, h1, ⟨hs.1, hs.2.1.keep fun b φ q => e _ _ q (nt_ext _), wk, hs.2.2.2⟩, al, fun x hx => ?_⟩
  have hn := h2 x hx
  refine ⟨fun z => ?_, fun z => ?_, fun z => ?_⟩
  · rw [z, hs.2.1.fn] at hn
    cases hn
  · rw [z, hs.2.1.code] at hn
    cases hn
  · obtain ⟨v, q⟩ := hs.2.1.all x z
    rw [q] at hn
    cases hn
end

/-! ### arguments with draws -/
def EFA (ta : TA) (σ : L2.St) (H : Hp) (G : List V → Hp → Prop) : Prop := ∀ Q : List V → Hp → Prop, (∀ vs H', G vs H' → Q vs H') → ta σ H Q
section
variable {K : PySem.W.Frag} {p c : Addr} {σ : L2.St} {H H' : Hp} {ta : TA} {te tb tn : TE} {tr : TA} {tt : TT} {j : Nat} {vs : List Nat} {G : V → Hp → Prop} {sp : Sp}
theorem efa_nil : EFA tNil σ H fun vs H' => vs = [] ∧ H' = H := fun Q q => q [] H ⟨rfl, rfl⟩
theorem efa_cons {G1 : V → Hp → Prop} {G2 : V → Hp → List V → Hp → Prop} (h : EF te σ H G1) (hr : ∀ v H1, G1 v H1 → EFA tr σ H1 (G2 v H1)) : EFA (tCons te tr) σ H fun vs H' => ∃ v r H1, vs = v :: r ∧ G1 v H1 ∧ G2 v H1 r H' := fun Q q =>
  h _ fun v H1 g => hr v H1 g _ fun r H2 g2 => q _ H2 ⟨v, r, H1, rfl, g, g2⟩
theorem ef_call {GA : List V → Hp → Prop} (h : EFA ta σ H GA) (k : ∀ ws H1, GA ws H1 → ∀ Q : VK, (∀ v H', G v H' → Q v H') → sp ws H1 Q E0) : EF (tCall sp [] E0 ta) σ H G := fun Q q =>
  h _ fun ws H1 g => by
    rw [List.append_nil]
    exact k ws H1 g Q q
theorem ef_op {r : R2} {G1 : V → Hp → Prop} {G2 : V → Hp → V → Hp → Prop} (h1 : EF te σ H G1) (h2 : ∀ v H1, G1 v H1 → EF tb σ H1 (G2 v H1)) (k : ∀ v H1 u H2, G1 v H1 → G2 v H1 u H2 → ∀ Q : VK, (∀ z H', G z H' → Q z H') → r v u H2 Q) : EF (tOp r te tb) σ H G := fun Q q =>
  h1 _ fun v H1 g1 => h2 v H1 g1 _ fun u H2 g2 => k v H1 u H2 g1 g2 Q q
theorem ef_lst {GA : List V → Hp → Prop} (h : EFA ta σ H GA) (hl : ∀ ws H1, GA ws H1 → ws.length ≤ 100000) : EF (tLst ta) σ H fun v H' => ∃ b ws H1, v = .ref b ∧ GA ws H1 ∧ H1 b = none ∧ H' = upd H1 b (.lst ws) := fun Q q =>
  h _ fun ws H1 g => ⟨by have := hl ws H1 g; rw [sizeLine_eq]; omega, fun b hb => q _ _ ⟨b, ws, H1, rfl, g, hb, rfl⟩⟩
theorem ef_intB (h : EF te σ H fun v H' => ∃ b : Bool, v = .bl b ∧ Dn p c H H') : EF (tCB rInt1 (tCons te tNil)) σ H fun v H' => ∃ b : Bool, v = .int (if b then 1 else 0) ∧ Dn p c H H' := fun Q q =>
  h _ fun v H1 ⟨b, e, dn⟩ => .inr ⟨b, by rw [e], q _ H1 ⟨b, rfl, dn⟩⟩
theorem ef_eq0 {m : Int} (h : EF te σ H fun v H' => ∃ d : Nat, v = .int (d : Int) ∧ (d : Int) < m ∧ Dn p c H H') : EF (tOp (rEqA K) te (tC (.int 0))) σ H fun v H' => ∃ b : Bool, v = .bl b ∧ Dn p c H H' := fun Q q =>
  h _ fun v H1 ⟨d, e, _, dn⟩ => by
    subst e
    exact .inl ⟨rfl, q _ H1 ⟨_, rfl, dn⟩⟩
theorem atI_getLast {xs : List V} {x : V} (h : xs.getLast? = some x) : atI xs (-1) = some x := by
  obtain ⟨ys, rfl⟩ := List.getLast?_eq_some_iff.mp h
  exact atI_last _ _
/-- over range(draw) -/
theorem ef_rngD {M : Int} (Rel : Nat → List PyData → Prop) (r0 : Rel 0 []) (hM : M ≤ 50000) (h : EF tn σ H fun v H' => ∃ d : Nat, v = .int (d : Int) ∧ (d : Int) < M ∧ Dn p c H H') (hw : ∀ x, wipe ((wipe σ vs).set j (some x)) vs = wipe σ vs)
    (turn : ∀ i ds H4, Dn p c H H4 → Rel i ds → ∀ (Q1 : V → Hp → Prop) (Q0 : Hp → Prop), (∀ y H6 d, Dt H6 d y → Rel (i + 1) (ds ++ [d]) → Dn p c H4 H6 → Q1 y H6) → (∀ H5, Rel (i + 1) ds → Dn p c H4 H5 → Q0 H5) →
      tt ((wipe σ vs).set j (some (.int (i : Int)))) H4 fun b H5 => if b = true then te ((wipe σ vs).set j (some (.int (i : Int)))) H5 Q1 else Q0 H5) :
    EF (tLc (iRng1 (tCons tn tNil)) (gName j) tt te vs) σ H fun v H' => ∃ q xs ds, v = .ref q ∧ H q = none ∧ H' q = some (.lst xs) ∧ DtA H' ds xs ∧ (∃ n : Nat, (n : Int) < M ∧ Rel n ds) ∧ Dn p c H H' := fun Q hQ => by
  refine h _ fun v H1 ⟨d, e, hd, dn⟩ => ?_
  subst e
  have q := ef_rng (te := te) (tt := tt) (tn := tC (.int (d : Int))) (n := d) (σ := σ) (vs := vs) (j := j) Rel r0 dn.at_ (fun Q q => q _ H1 ⟨rfl, Dn.refl dn.at_⟩) (by omega) hw (fun i ds H4 _ dn4 hr => turn i ds H4 (dn.trans dn4) hr) Q fun v H' ⟨q, xs, ds, e, hq, h1, h2, h3, h4⟩ => hQ v H' ⟨q, xs, ds, e, ?_, h1, h2, ⟨d, hd, h3⟩, dn.trans h4⟩
  · exact q
  · cases z : H q with
    | none => rfl
    | some u =>
      obtain ⟨a, b⟩ := dn.at_.ne_new hq
      rw [dn.fr q u a b z] at hq
      cases hq
end
end Z
/-! Lg: law. -/
namespace Z
open PySem PySem.Spec PyProof.Rows L2 Evl LamX

def spLaw (T : List (Addr × Str)) (K : PySem.W.Frag) : Sp := fun vs H Q _ => ∃ (a : Addr) (ns : List Int), vs = [.ref a] ∧ SqL K H a (ns.map V.int) ∧ ns.length ≤ 63 ∧ Tabs T H ∧ ∀ H', Q (.bl true) H'
theorem lay_padded (cs : List Card) (rows : List (List Int)) : Lay 2 (dPadded cs rows) := lay_tup fun d hd => by
  obtain ⟨k, _, rfl⟩ := List.mem_map.mp hd
  refine lay_tup fun d hd => ?_
  rcases List.mem_append.mp hd with hd | hd
  · obtain ⟨x, _, rfl⟩ := List.mem_map.mp hd
    exact lay_int _ _
  · rw [(List.mem_replicate.mp hd).2]
    exact lay_none _
theorem lay_asked (q : Asked) : Lay 5 (dAsked q) := lay_tup fun d hd => by
  simp only [List.mem_cons, List.not_mem_nil, or_false] at hd
  rcases hd with rfl | rfl | rfl | rfl | rfl
  · exact lay_int _ _
  · exact lay_int _ _
  · exact (lay_way _).le (by decide)
  · refine lay_tup fun d hd => ?_
    obtain ⟨x, _, rfl⟩ := List.mem_map.mp hd
    refine lay_tup (n := 2) fun d hd => ?_
    simp only [List.mem_cons, List.not_mem_nil, or_false] at hd
    rcases hd with rfl | rfl
    · exact lay_int _ _
    · exact lay_card _
  · refine (lay_tup (n := 1) fun d hd => ?_).le (by decide)
    obtain ⟨x, _, rfl⟩ := List.mem_map.mp hd
    refine lay_tup (n := 0) fun d hd => ?_
    simp only [List.mem_cons, List.not_mem_nil, or_false] at hd
    rcases hd with rfl | rfl | rfl <;> exact lay_int _ _
theorem lay_askeds (qs : List Asked) : Lay 6 (.list (qs.map dAsked)) := lay_list fun d hd => by
  obtain ⟨x, _, rfl⟩ := List.mem_map.mp hd
  exact lay_asked _
section
variable {K : PySem.W.Frag} {σ : L2.St} {H : Hp} {ta tb : TE} {d : PyData}
theorem ev_neSame (ha : ED ta σ H d) (hb : ED tb σ H d) {n : Nat} (hl : Lay n d) (h64 : n ≤ 64) : Ev (tOp (rNeA K) ta tb) σ H (.bl false) := fun H1 e1 Q q =>
  ha H1 e1 _ fun v H2 e2 hd => hb H2 (e1.trans e2) _ fun v' H3 e3 hd' => .inr ⟨d, d, dt_dp _ _ (hd.ex e3), dt_dp _ _ hd', hl.shaped h64, hl.shaped h64, by
    rw [SeqAt.eqv_refl d hl.1]
    exact q H3 (e2.trans e3)⟩
theorem ev_neLists {i j : Nat} {a b : Addr} {xs ys : List V} {ds : List PyData} (hi : σ[i]? = some (some (.ref a))) (hj : σ[j]? = some (some (.ref b))) (ha : H a = some (.lst xs)) (hb : H b = some (.lst ys)) (hx : DtA H ds xs) (hy : DtA H ds ys) {n : Nat} (hl : Lay n (.list ds)) (h64 : n ≤ 64) :
    Ev (tOp (rNeA K) (tVar i) (tVar j)) σ H (.bl false) := fun H1 e1 Q q => ⟨_, hi, _, hj, .inr ⟨.list ds, .list ds, (hx.ex e1).dp (e1 _ _ ha), (hy.ex e1).dp (e1 _ _ hb), hl.shaped h64, hl.shaped h64, by
    rw [SeqAt.eqv_refl _ hl.1]
    exact q H1 (Ex.refl _)⟩⟩
end
abbrev s_law : Stmt := top 54
abbrev N_law : List Str := ["_law_script", "_law_pool_here", "_law_web_here", "_law_made", "_law_turn", "_law_letters", "_law_hours", "_law_lot_here", "_law_sort", "_law_cards_here", "_law_sight", "_law_choose", "_law_last", "_law_mine", "_law_its", "_law_due", "_law_told", "_law_k", "_law_asked", "_law_card"]
theorem sc_law : FnScope N_law ["_law_script"] (defScope s_law) := ⟨rfl, rfl, rfl, by decide +kernel, rfl, by decide +kernel, by decide +kernel⟩
section
variable {P : Program} {w : World} {K : PySem.W.Frag} {mg : Str → Option Value} {base : Heap} {f : Addr} {fd : FuncData} {C : Addr} {T : List (Addr × Str)}
theorem ok_law (F : Fun K "law" "law" s_law f fd) (B : Bl mg) (c_l_pool : Cal P w K mg base "_law_pool" 1 ["_law_script"] (spPool K)) (c_l_web : Cal P w K mg base "_law_web" 2 ["_law_pool_here", "_law_size", "_law_rooms", "_law_times"] spWeb)
    (c_l_web_of : Cal P w K mg base "_law_web_of" 6 ["_law_web_here"] (spWebOf C)) (c_l_draw : Cal P w K mg base "_law_draw" 1 ["_law_pool_here", "_law_many"] spDraw) (c_l_letter : Cal P w K mg base "_law_letter" 2 ["_law_pool_here", "_law_web_here", "_law_most", "_law_span"] spLetter)
    (c_l_led : Cal P w K mg base "_law_led" 3 ["_law_pool_here", "_law_web_here", "_law_letters"] spLed) (c_l_lot : Cal P w K mg base "_law_lot" 2 ["_law_pool_here", "_law_web_here"] spLot) (c_l_cards : Cal P w K mg base "_law_cards" 1 ["_law_web_here", "_law_letters", "_law_hours", "_law_lot_here", "_law_sort"] spCards)
    (c_l_stranger : Cal P w K mg base "_law_stranger" 1 frS (spMaker T wStr frS 3)) (c_l_noted : Cal P w K mg base "_law_noted" 1 frN (spMaker T wNot frN 2)) (c_l_play : Cal P w K mg base "_law_play" 5 ["_law_web_here", "_law_cards_here", "_law_sight", "_law_choose", "_law_last"] spPlay)
    (c_stranger_hours : Cal P w K mg base "stranger_hours" 8 ["web", "cards", "ahead", "choose"] (spStranger C)) (c_l_padded : Cal P w K mg base "_law_padded" 1 ["_law_cards_here", "_law_rows"] spPadded) : FnOk P w K mg base CX0 9 f fd ["_law_script"] (spLaw T K) := by
  refine F.ok sc_law (fun vs H Q E h => ?_) (fun cdv A outer s H vs Q E hr h => ?_)
  · obtain ⟨a, ns, rfl, _⟩ := h
    rfl
  · obtain ⟨sa, ns, rfl, hsa, hns, tabs, k⟩ := h
    have hu64 := hr.units
    have hu := hu_of hr
    refine ⟨_, (pss_cons (ps_set (i := 1) sc_law.nd rfl (.inr rfl) (pe_callC c_l_pool (hr.mono (by decide)) (by rfl) (pa_cons (pv 0) pa_nil)))
    (pss_cons (ps_set (i := 2) sc_law.nd rfl (.inr rfl) (pe_callC c_l_web (hr.mono (by decide)) (by rfl) (pa_cons (pv 1) (pa_cons pe_int (pa_cons (pe_lst (pa_cons pe_int (pa_cons pe_int (pa_cons pe_int (pa_cons pe_int pa_nil))))) (pa_cons (pe_lst (pa_cons pe_int (pa_cons pe_int (pa_cons pe_int (pa_cons pe_int pa_nil))))) pa_nil))))))
    (pss_cons (ps_set (i := 3) sc_law.nd rfl (.inl rfl) (pe_callC c_l_web_of (hr.mono (by decide)) (by rfl) (pa_cons (pv 2) pa_nil)))
    (pss_cons (ps_for PassesOwn.never rfl (pi_range1 (by rfl) B.range (pa_cons pe_int pa_nil)) (pg_name (i := 4) sc_law.nd rfl (.inl rfl))
    (pss_cons (ps_set (i := 5) sc_law.nd rfl (.inl rfl) (pe_callTy (kTup (K := K)) (by rfl) B.tuple b_tuple (pa_cons (pe_lc (own := [("_law_k", 17)]) rfl sc_law.nd (pi_range1 (by rfl) B.range (pa_cons (pe_callC c_l_draw (hr.mono (by decide)) (by rfl) (pa_cons (pv 1) (pa_cons pe_int pa_nil))) pa_nil)) (blkOk_by (N := N_law) (sc := defScope s_law) (by decide +kernel)) (fun _ _ _ _ _ => (pg_name (i := 17) sc_law.nd rfl (.inl rfl))) (fun _ _ _ _ _ => pts_nil) (fun _ _ _ _ _ => (pe_callC c_l_letter (hr.mono (by decide)) (by rfl) (pa_cons (pv 1) (pa_cons (pv 2) (pa_cons pe_int (pa_cons pe_int pa_nil))))))) pa_nil)))
      (pss_cons (ps_set (i := 6) sc_law.nd rfl (.inl rfl) (pe_callC c_l_led (hr.mono (by decide)) (by rfl) (pa_cons (pv 1) (pa_cons (pv 2) (pa_cons (pv 5) pa_nil)))))
      (pss_cons (ps_set (i := 7) sc_law.nd rfl (.inl rfl) (pe_callC c_l_lot (hr.mono (by decide)) (by rfl) (pa_cons (pv 1) (pa_cons (pv 2) pa_nil))))
      (pss_cons (ps_set (i := 8) sc_law.nd rfl (.inl rfl) (pe_ix (kIx (K := K)) (pe_lst (pa_cons pe_str (pa_cons pe_str pa_nil))) (pe_callC c_l_draw (hr.mono (by decide)) (by rfl) (pa_cons (pv 1) (pa_cons pe_int pa_nil))) (fun _ _ => rfl)))
      (pss_cons (ps_set (i := 9) sc_law.nd rfl (.inl rfl) (pe_callC c_l_cards (hr.mono (by decide)) (by rfl) (pa_cons (pv 2) (pa_cons (pv 5) (pa_cons (pv 6) (pa_cons (pv 7) (pa_cons (pv 8) pa_nil)))))))
      (pss_cons (ps_set (i := 10) sc_law.nd rfl (.inl rfl) (pe_ix (kIx (K := K)) (pe_lst (pa_cons (pe_callC c_l_draw (hr.mono (by decide)) (by rfl) (pa_cons (pv 1) (pa_cons pe_int pa_nil))) (pa_cons (pe_callC c_l_draw (hr.mono (by decide)) (by rfl) (pa_cons (pv 1) (pa_cons pe_int pa_nil))) pa_nil))) (pe_callTy cInt (by rfl) B.int b_int (pa_cons (pe_cmpR (kEq (K := K) hu64) (pe_callC c_l_draw (hr.mono (by decide)) (by rfl) (pa_cons (pv 1) (pa_cons pe_int pa_nil))) pe_int (nomark _)) pa_nil)) (fun _ _ => rfl)))
      (pss_cons (ps_set (i := 11) sc_law.nd rfl (.inl rfl) (pe_callC c_l_stranger (hr.mono (by decide)) (by rfl) (pa_cons (pe_callC c_l_draw (hr.mono (by decide)) (by rfl) (pa_cons (pv 1) (pa_cons pe_int pa_nil))) (pa_cons (pe_callC c_l_draw (hr.mono (by decide)) (by rfl) (pa_cons (pv 1) (pa_cons pe_int pa_nil))) (pa_cons (pv 2) pa_nil)))))
      (pss_cons (ps_set (i := 12) sc_law.nd rfl (.inl rfl) (pe_op (kAdd (K := K)) (pe_callB (kMax1 (K := K)) (by rfl) B.max b_max (pa_cons (pe_op (kAdd (K := K)) (pe_lst (pa_cons pe_int pa_nil)) (pe_lc (own := [("_law_card", 19)]) rfl sc_law.nd (k_sq (K := K) (pv 9)) (blkOk_by (N := N_law) (sc := defScope s_law) (by decide +kernel)) (fun _ _ _ _ _ => (pg_name (i := 19) sc_law.nd rfl (.inl rfl))) (fun _ _ _ _ _ => pts_nil) (fun _ _ _ _ _ => (pe_ix (kIx (K := K)) (pv 19) pe_int (fun _ _ => rfl))))) pa_nil)) pe_int))
      (pss_cons (ps_set (i := 13) sc_law.nd rfl (.inl rfl) (pe_lst pa_nil))
      (pss_cons (ps_set (i := 14) sc_law.nd rfl (.inl rfl) (pe_lst pa_nil))
      (pss_cons (ps_set (i := 15) sc_law.nd rfl (.inl rfl) (pe_ix (kIx (K := K)) (pe_callC c_l_play (hr.mono (by decide)) (by rfl) (pa_cons (pv 2) (pa_cons (pv 9) (pa_cons (pv 10) (pa_cons (pe_callC c_l_noted (hr.mono (by decide)) (by rfl) (pa_cons (pv 11) (pa_cons (pv 13) pa_nil))) (pa_cons (pv 12) pa_nil)))))) (pe_un oNeg pe_int) (fun _ _ => rfl)))
      (pss_cons (ps_set (i := 16) sc_law.nd rfl (.inl rfl) (pe_callC c_stranger_hours (hr.mono (by decide)) (by rfl) (pa_cons (pv 3) (pa_cons (pv 9) (pa_cons (pv 10) (pa_cons (pe_callC c_l_noted (hr.mono (by decide)) (by rfl) (pa_cons (pv 11) (pa_cons (pv 14) pa_nil))) pa_nil))))))
      (pss_cons (ps_if (PW.pt (pw_or (pt_cmpR (kNe (K := K) hu64) (pv 16) (pe_callC c_l_padded (hr.mono (by decide)) (by rfl) (pa_cons (pv 9) (pa_cons (pv 15) pa_nil))) (nomark _)) (pw_or1 (pt_cmpR (kNe (K := K) hu64) (pv 14) (pv 13) (nomark _)))))
      (pss_one (ps_ret pe_bl))
      pss_nil)
      (pss_one (ps_if (pt_not (pt_val (pe_callB (kAll (K := K)) (by rfl) B.all b_all (pa_cons (pe_lc (own := [("_law_asked", 18)]) rfl sc_law.nd (k_sq (K := K) (pv 14)) (blkOk_by (N := N_law) (sc := defScope s_law) (by decide +kernel)) (fun _ _ _ _ _ => (pg_name (i := 18) sc_law.nd rfl (.inl rfl))) (fun _ _ _ _ _ => pts_nil) (fun _ _ _ _ _ => (pe_and (pe_callB (kIsi (K := K)) (by rfl) B.isinstance b_isinstance (pa_cons (pe_ix (kIx (K := K)) (pv 18) pe_int (fun _ _ => rfl)) (pa_cons (pe_bltn (v := .ty "tuple") (by rfl) B.tuple b_tuple rfl) pa_nil))) (pe_and (pe_callB (kIsi (K := K)) (by rfl) B.isinstance b_isinstance (pa_cons (pe_ix (kIx (K := K)) (pv 18) pe_int (fun _ _ => rfl)) (pa_cons (pe_bltn (v := .ty "tuple") (by rfl) B.tuple b_tuple rfl) pa_nil))) (pe_one (pe_callB (kIsi (K := K)) (by rfl) B.isinstance b_isinstance (pa_cons (pe_ix (kIx (K := K)) (pv 18) pe_int (fun _ _ => rfl)) (pa_cons (pe_bltn (v := .ty "tuple") (by rfl) B.tuple b_tuple rfl) pa_nil)))))))) pa_nil))))
      (pss_one (ps_ret pe_bl))
      pss_nil))))))))))))))))
    (pss_one (ps_ret (pe_cmpR (kEq (K := K) hu64) (pe_callC c_stranger_hours (hr.mono (by decide)) (by rfl) (pa_cons (pv 3) (pa_cons (pe_tup pa_nil) (pa_cons pe_int (pa_cons (pe_callC c_l_stranger (hr.mono (by decide)) (by rfl) (pa_cons pe_int (pa_cons pe_int (pa_cons (pv 2) pa_nil)))) pa_nil))))) (pe_tup pa_nil) (nomark _)))))))), ?_⟩
    -- pool
    refine q_call (eap_v (ev_var rfl) eap_nil) fun ws H1 e1 hp => ?_
    obtain ⟨_, rfl, rfl⟩ := hp
    refine ⟨sa, ns, rfl, ex_l e1 hsa, hns, fun p c H2 hp0 hc0 e2 hP => ?_⟩
    have t2 := tabs.ext (e1.trans e2)
    clear hsa tabs e1 e2 hp0 hc0
    show tSeq _ _ _ [some (V.ref sa), some (V.ref p), none, none, none, none, none, none, none, none, none, none, none, none, none, none, none, none, none, none] _
    -- web
    have hnums : ELD (tLst (tCons (tC (.int 1)) (tCons (tC (.int 1)) (tCons (tC (.int 2)) (tCons (tC (.int 3)) tNil))))) [some (V.ref sa), some (V.ref p), none, none, none, none, none, none, none, none, none, none, none, none, none, none, none, none, none, none] H2 (([1, 1, 2, 3] : List Int).map PyData.int) := eld_lst (ead_cons (edI ev_c) (ead_cons (edI ev_c) (ead_cons (edI ev_c) (ead_cons (edI ev_c) ead_nil)))) (by decide)
    refine q_call (eap_v (ev_var rfl) (eap_v ev_c (eap_ld hnums (eap_ld hnums eap_nil)))) fun ws H3 e3 hp => ?_
    obtain ⟨_, rfl, _, rfl, rm, rxs, _, rfl, rm0, hrm, hrx, tm, txs, _, rfl, tm0, htm, htx, rfl⟩ := hp
    have hrx := hrx.ints
    have htx := htx.ints
    subst hrx
    subst htx
    refine ⟨p, c, rm, tm, rfl, hP.ex e3, hrm, htm, (hP.ne_new rm0).1, (hP.ne_new rm0).2, (hP.ne_new tm0).1, (hP.ne_new tm0).2, fun wa W H4 wa0 dn4 hW wok => ?_⟩
    have kp4 : Kp T p c H2 H4 := (Kp.ex hP t2 e3).draw dn4
    obtain ⟨wap, wac⟩ := (hP.ex e3).ne_new wa0
    clear hnums hrm htm rm0 tm0 dn4 wa0
    show tSeq _ _ _ [some (V.ref sa), some (V.ref p), some (V.ref wa), none, none, none, none, none, none, none, none, none, none, none, none, none, none, none, none, none] _
    -- made
    refine q_call (eap_v (ev_var rfl) eap_nil) fun ws H5 e5 hp => ?_
    obtain ⟨_, rfl, rfl⟩ := hp
    refine ⟨wa, W, rfl, hW.ex e5, wok, fun m H6 m0 e6 hM => ?_⟩
    have P6 : PoolAt H6 p c := kp4.at_.ex (e5.trans e6)
    have t6 : Tabs T H6 := kp4.tabs.ext (e5.trans e6)
    have hW6 := hW.ex (e5.trans e6)
    clear kp4 hW e5 e6 m0 t2 hP
    show tSeq _ _ _ [some (V.ref sa), some (V.ref p), some (V.ref wa), some (V.ref m), none, none, none, none, none, none, none, none, none, none, none, none, none, none, none, none] _
    refine q_forR1 (n := 2) (ea_cons ev_c ea_nil) (by omega) (fun i σ' H' => ∃ o4 o5 o6 o7 o8 o9 o10 o11 o12 o13 o14 o15 o16, σ' = [some (V.ref sa), some (V.ref p), some (V.ref wa), some (V.ref m), o4, o5, o6, o7, o8, o9, o10, o11, o12, o13, o14, o15, o16, none, none, none] ∧ Kp T p c H6 H') (fun H7 e7 => ⟨_, _, _, _, _, _, _, _, _, _, _, _, _, rfl, Kp.ex P6 t6 e7⟩) (fun i σ' H7 _ q => ?_) fun σ' H7 q => ?_
    · obtain ⟨o4, o5, o6, o7, o8, o9, o10, o11, o12, o13, o14, o15, o16, rfl, kp7⟩ := q
      show tSeq _ _ _ [some (V.ref sa), some (V.ref p), some (V.ref wa), some (V.ref m), some (.int (i : Int)), o5, o6, o7, o8, o9, o10, o11, o12, o13, o14, o15, o16, none, none, none] _
      have hW7 := kp7.web P6 wap wac hW6
      have hM7 := kp7.made P6 hM
      -- letters
      refine q_asgF (ef_tuple (p := p) (c := c) (R := fun ds => ∃ ls : List Let, ds = ls.map dLet ∧ LetsOk W ls) (EF.mono (ef_rngD (p := p) (c := c) (M := 11) (fun i ds => ∃ ls : List Let, ds = ls.map dLet ∧ ls.length = i ∧ ∀ l ∈ ls, LetOk W l) ⟨[], rfl, rfl, fun l hl => by simp at hl⟩ (by decide) (ef_draw (ev_var rfl) ev_c (by decide) (by decide) kp7.at_) (fun _ => rfl) fun j ds H8 dn8 ⟨ls, hls, hll, hlo⟩ Q1 Q0 q1 q0 => ?_) fun v H' ⟨q, xs, ds, a1, a2, a3, a4, ⟨n, hn, ls, b1, b2, b3⟩, a6⟩ => ⟨q, xs, ds, a1, a2, a3, a4, ⟨ls, b1, by omega, b3⟩, a6⟩)) fun lv H8 ⟨ds, hlv, ⟨ls, hds, lo⟩, dn8⟩ => ?_
      · unfold tYes
        dsimp only
        rw [if_pos rfl]
        refine (eap_v (ev_var rfl) (eap_v (ev_var rfl) (eap_v ev_c (eap_v ev_c eap_nil)))) H8 (Ex.refl _) _ fun ws H9 e9 hp => ?_
        obtain ⟨_, rfl, _, rfl, _, rfl, _, rfl, rfl⟩ := hp
        have kp9 := (kp7.draw dn8).more e9
        refine ⟨p, c, wa, W, rfl, kp9.at_, kp9.web P6 wap wac hW6, wok, wap, wac, fun v H10 l dn10 hl hv => q1 v H10 (dLet l) hv ⟨ls ++ [l], by rw [hls, List.map_append] <;> rfl, by rw [List.length_append, hll] <;> rfl, fun x hx => ?_⟩ ((Dn.of dn8.at_ e9).trans dn10)⟩
        rcases List.mem_append.mp hx with hx | hx
        · exact hlo x hx
        · rw [List.mem_singleton.mp hx]
          exact hl
      subst hds
      have hlv : Dt H8 (dLets ls) lv := hlv
      have kp8 := kp7.draw dn8
      show tSeq _ _ _ [some (V.ref sa), some (V.ref p), some (V.ref wa), some (V.ref m), some (.int (i : Int)), some lv, o6, o7, o8, o9, o10, o11, o12, o13, o14, o15, o16, none, none, none] _
      -- hours
      refine q_call (eap_v (ev_var rfl) (eap_v (ev_var rfl) (eap_d (ed_var rfl hlv) eap_nil))) fun ws H9 e9 hp => ?_
      obtain ⟨_, rfl, _, rfl, x, _, rfl, hx, rfl⟩ := hp
      have kp9 := kp8.more e9
      refine ⟨p, c, wa, x, W, ls, rfl, kp9.at_, kp9.web P6 wap wac hW6, wok, wap, wac, hx, lo, fun hv H10 hs dn10 hhv hsl hsi => ?_⟩
      have kp10 := kp9.draw dn10
      have hlv := (hlv.ex e9).tk (dn10.tk kp9.at_)
      clear hx
      show tSeq _ _ _ [some (V.ref sa), some (V.ref p), some (V.ref wa), some (V.ref m), some (.int (i : Int)), some lv, some hv, o7, o8, o9, o10, o11, o12, o13, o14, o15, o16, none, none, none] _
      -- lot
      refine q_call (eap_v (ev_var rfl) (eap_v (ev_var rfl) eap_nil)) fun ws H11 e11 hp => ?_
      obtain ⟨_, rfl, _, rfl, rfl⟩ := hp
      have kp11 := kp10.more e11
      refine ⟨p, c, wa, W, rfl, kp11.at_, kp11.web P6 wap wac hW6, wok, wap, wac, fun lotv H12 lot dn12 hlot => ?_⟩
      have kp12 := kp11.draw dn12
      have hlv := (hlv.ex e11).tk (dn12.tk kp11.at_)
      have hhv := (hhv.ex e11).tk (dn12.tk kp11.at_)
      show tSeq _ _ _ [some (V.ref sa), some (V.ref p), some (V.ref wa), some (V.ref m), some (.int (i : Int)), some lv, some hv, some lotv, o8, o9, o10, o11, o12, o13, o14, o15, o16, none, none, none] _
      -- sort
      refine q_asgF (ef_ixL (p := p) (c := c) (m := 2) (xs := [.str "hours", .str "turns"]) (fun Q q => ⟨by show 2 ≤ sizeLine; decide, fun b hb => q b _ (Dn.of kp12.at_ (Ex.new hb)) upd_same (kp12.at_.ne_new hb).1 (kp12.at_.ne_new hb).2⟩) (fun H3 dn => ef_draw (ev_var rfl) ev_c (by decide) (by decide) dn.at_) (by decide)) fun sv H13 ⟨d, hd, dn13⟩ => ?_
      obtain ⟨hours, rfl⟩ : ∃ hours : Bool, sv = .str (sortS hours) := by
        match d, hd with
        | 0, hd => cases hd; exact ⟨true, rfl⟩
        | 1, hd => cases hd; exact ⟨false, rfl⟩
        | _ + 2, hd => simp at hd
      have kp13 := kp12.draw dn13
      have hlv := hlv.tk (dn13.tk kp12.at_)
      have hhv := hhv.tk (dn13.tk kp12.at_)
      have hlot := hlot.tk (dn13.tk kp12.at_)
      show tSeq _ _ _ [some (V.ref sa), some (V.ref p), some (V.ref wa), some (V.ref m), some (.int (i : Int)), some lv, some hv, some lotv, some (.str (sortS hours)), o9, o10, o11, o12, o13, o14, o15, o16, none, none, none] _
      -- cards
      refine q_call (eap_v (ev_var rfl) (eap_d (ed_var rfl hlv) (eap_d (ed_var rfl hhv) (eap_d (ed_var rfl hlot) (eap_v (ev_var rfl) eap_nil))))) fun ws H14 e14 hp => ?_
      obtain ⟨_, rfl, x1, _, rfl, hx1, x2, _, rfl, hx2, x3, _, rfl, hx3, _, rfl, rfl⟩ := hp
      refine ⟨wa, x1, x2, x3, W, ls, hs, lot, hours, rfl, hx1, hx2, hx3, lo, hsl, fun i hi => (hsi i hi).2.1, fun cv H15 cs e15 hcv csl hcs => ?_⟩
      have kp15 := (kp13.more e14).more e15
      have cOk : ∀ cd ∈ cs, CardOk W lot cd ∧ isCardB W hours cd = true ∧ cd.home ≤ 420 := fun cd hcd => by
        obtain ⟨j, hj⟩ := List.mem_iff_getElem?.mp hcd
        have hjl := (List.getElem?_eq_some_iff.mp hj).1
        have ci := hcs j (by omega)
        rw [List.getD_eq_getElem?_getD (l := cs), hj] at ci
        have ci : CardIs hours lot (ls.getD j ([], 0)) (hs.getD j []) cd := ci
        have loj := lo.ok _ (getD_mem (x := ([], 0)) (by omega : j < ls.length))
        obtain ⟨h1, h2, h3⟩ := hsi j (by omega)
        refine ⟨cardOk_of ci loj, card_yes ci loj h1 h2, ?_⟩
        rw [ci.home]
        have := home_le h3 (by decide)
        omega
      have cok : CsOk W cs := ⟨by rw [csl]; have := lo.n; omega, fun cd hcd => (cOk cd hcd).1.way.roads, fun cd hcd => Nat.le_trans (cOk cd hcd).1.way.l8 (by decide)⟩
      have cn : cs.length ≤ 10 := by rw [csl]; exact lo.n
      clear hlv hhv hlot hx1 hx2 hx3 hcs hsi hsl
      show tSeq _ _ _ [some (V.ref sa), some (V.ref p), some (V.ref wa), some (V.ref m), some (.int (i : Int)), some lv, some hv, some lotv, some (.str (sortS hours)), some cv, o10, o11, o12, o13, o14, o15, o16, none, none, none] _
      -- sight
      have hsight : EF (tOp (rIx K) (tLst (tCons (tCall spDraw [] E0 (tCons (tVar 1) (tCons (tC (.int 5)) tNil))) (tCons (tCall spDraw [] E0 (tCons (tVar 1) (tCons (tC (.int 41)) tNil))) tNil))) (tCB rInt1 (tCons (tOp (rEqA K) (tCall spDraw [] E0 (tCons (tVar 1) (tCons (tC (.int 4)) tNil))) (tC (.int 0))) tNil))) [some (V.ref sa), some (V.ref p), some (V.ref wa), some (V.ref m), some (.int (i : Int)), some lv, some hv, some lotv, some (.str (sortS hours)), some cv, o10, o11, o12, o13, o14, o15, o16, none, none, none] H15 fun v H' => ∃ z : Int, v = .int z ∧ 0 ≤ z ∧ Dn p c H15 H' := by
        refine ef_op (G1 := fun v H1 => ∃ (b : Addr) (d1 d2 : Nat), v = .ref b ∧ H1 b = some (.lst [.int (d1 : Int), .int (d2 : Int)]) ∧ b ≠ p ∧ b ≠ c ∧ Dn p c H15 H1) (G2 := fun _ H1 u H2 => ∃ bb : Bool, u = .int (if bb then 1 else 0) ∧ Dn p c H1 H2)
          (EF.mono (ef_lst (efa_cons (ef_draw (p := p) (c := c) (m := 5) (ev_var rfl) ev_c (by decide) (by decide) kp15.at_) fun v H1 ⟨d1, _, _, dn1⟩ => efa_cons (ef_draw (p := p) (c := c) (m := 41) (ev_var rfl) ev_c (by decide) (by decide) dn1.at_) fun _ _ _ => efa_nil) fun ws H1 ⟨v, r, H2, e, _, v2, r2, H3, e2, _, e3, _⟩ => by rw [e, e2, e3]; show 2 ≤ 100000; decide) fun v H' ⟨b, ws, H1, ev, ⟨u1, r, H2, e, ⟨d1, eu1, _, dn1⟩, u2, r2, H3, e2, ⟨d2, eu2, _, dn2⟩, e3, e4⟩, hb, eh⟩ => ?_)
          (fun v H1 ⟨b, d1, d2, _, _, _, _, dn1⟩ => ef_intB (ef_eq0 (ef_draw (p := p) (c := c) (m := 4) (ev_var rfl) ev_c (by decide) (by decide) dn1.at_))) fun v H1 u H2 ⟨b, d1, d2, ev, hb, bp, bc, dn1⟩ ⟨bb, eu, dn2⟩ Q q => ?_
        · subst ev e eu1 e2 eu2 e3 e4 eh
          have dn := dn1.trans dn2
          obtain ⟨bp, bc⟩ := dn.at_.ne_new hb
          exact ⟨b, d1, d2, rfl, upd_same, bp, bc, dn.ex (Ex.new hb)⟩
        · subst ev eu
          have hb2 := dn2.fr _ _ bp bc hb
          cases bb with
          | true => exact .inl ⟨b, _, 1, .int (d2 : Int), rfl, rfl, SqL.of hb2, atI_nat (j := 1) rfl, q _ H2 ⟨(d2 : Int), rfl, by omega, dn1.trans dn2⟩⟩
          | false => exact .inl ⟨b, _, 0, .int (d1 : Int), rfl, rfl, SqL.of hb2, atI_nat (j := 0) rfl, q _ H2 ⟨(d1 : Int), rfl, by omega, dn1.trans dn2⟩⟩
      refine q_asgF hsight fun v H16 ⟨sight, e, hsi0, dn16⟩ => ?_
      subst e
      have kp16 := kp15.draw dn16
      have hcv := hcv.tk (dn16.tk kp15.at_)
      clear hsight
      show tSeq _ _ _ [some (V.ref sa), some (V.ref p), some (V.ref wa), some (V.ref m), some (.int (i : Int)), some lv, some hv, some lotv, some (.str (sortS hours)), some cv, some (.int sight), o11, o12, o13, o14, o15, o16, none, none, none] _
      -- choose
      have hchoose : EF (tCall (spMaker T wStr frS 3) [] E0 (tCons (tCall spDraw [] E0 (tCons (tVar 1) (tCons (tC (.int 10)) tNil))) (tCons (tCall spDraw [] E0 (tCons (tVar 1) (tCons (tC (.int 50)) tNil))) (tCons (tVar 2) tNil)))) [some (V.ref sa), some (V.ref p), some (V.ref wa), some (V.ref m), some (.int (i : Int)), some lv, some hv, some lotv, some (.str (sortS hours)), some cv, some (.int sight), o11, o12, o13, o14, o15, o16, none, none, none] H16 fun v H' => ∃ (g : Addr) (kind salt : Int) (L : LF), v = .ref g ∧ StrAt H' g L wa ⟨kind, salt, W⟩ ∧ Kp T p c H16 H' := by
        refine ef_call (efa_cons (ef_draw (p := p) (c := c) (m := 10) (ev_var rfl) ev_c (by decide) (by decide) kp16.at_) fun v H1 ⟨d1, _, _, dn1⟩ => efa_cons (ef_draw (p := p) (c := c) (m := 50) (ev_var rfl) ev_c (by decide) (by decide) dn1.at_) fun v2 H2 _ => efa_cons (ef_ev (ev_var rfl)) fun _ _ _ => efa_nil) fun ws H1 ⟨u1, r, H2, e, ⟨d1, eu1, _, dn1⟩, u2, r2, H3, e2, ⟨d2, eu2, _, dn2⟩, u3, r3, H4, e3, ⟨eu3, ex3⟩, e4, e5⟩ Q q => ?_
        subst e eu1 e2 eu2 e3 eu3 e4 e5
        have kq : Kp T p c H16 H1 := ((Kp.dn kp16.at_ kp16.tabs dn1).draw dn2).more ex3
        refine ⟨rfl, kq.tabs, fun g H5 eN t5 hg ⟨cl, c0, h1, h2⟩ => q _ H5 ⟨g, (d1 : Int), (d2 : Int), wStr.at cl c0, rfl, ?_, kq.trans (Kp.extN kq.at_ eN t5)⟩⟩
        exact ⟨⟨cl, c0, rfl⟩, h1, (kp16.trans (kq.trans (Kp.extN kq.at_ eN t5))).web P6 wap wac hW6, wok⟩
      refine q_asgF hchoose fun v H17 ⟨g, kind, salt, L, e, hS, kq17⟩ => ?_
      subst e
      have kp17 := kp16.trans kq17
      have hcv := hcv.tk (kq17.tk kp16.at_)
      clear hchoose kq17
      show tSeq _ _ _ [some (V.ref sa), some (V.ref p), some (V.ref wa), some (V.ref m), some (.int (i : Int)), some lv, some hv, some lotv, some (.str (sortS hours)), some cv, some (.int sight), some (.ref g), o12, o13, o14, o15, o16, none, none, none] _
      -- last
      have hm0 : 0 ≤ maxH cs := maxI_nn _
      have hm1 : maxH cs ≤ 420 := maxI_le (by decide) fun y hy => by
        obtain ⟨cd, hcd, rfl⟩ := List.mem_map.mp hy
        exact (cOk cd hcd).2.2
      have el : maxH cs + 20 = ((lastOf cs : Nat) : Int) := by unfold lastOf; omega
      refine q_asg (ev_isI (ev_add (ev_maxH (ED.es (ed_var rfl hcv)) (fun _ => rfl) (fun _ => rfl) (by omega)) ev_c) el) fun H18 e18 => ?_
      refine q_asgLD (eld_lst ead_nil (by decide)) fun mi _ H19 hmi e19 hm19 hx => ?_
      cases (hx : _ = [])
      refine q_asgLD (eld_lst ead_nil (by decide)) fun it _ H20 hit e20 hi20 hx => ?_
      cases (hx : _ = [])
      have kp18 := kp17.more e18
      have kp20 := (kp18.more e19).more e20
      have e1720 := (e18.trans e19).trans e20
      have hcv := hcv.ex e1720
      have kq := Kp.ex kp17.at_ kp17.tabs e1720
      have hS := kq.str kp17.at_ wap wac hS
      have hm20 := e20 _ _ hm19
      have itmi : it ≠ mi := fun z => by rw [z, hm19] at hit; cases hit
      have waw : ∃ xs, H18 wa = some (.lst xs) := by
        obtain ⟨xs, z, _⟩ := kp18.web P6 wap wac hW6
        exact ⟨xs, z⟩
      obtain ⟨wxs, hww⟩ := waw
      have wami : wa ≠ mi := fun z => by rw [← z, hww] at hmi; cases hmi
      have wait : wa ≠ it := fun z => by rw [← z, e19 _ _ hww] at hit; cases hit
      obtain ⟨mip, mic, mi6⟩ := kp18.fresh hmi
      obtain ⟨itp, itc, it6⟩ := (kp18.more e19).fresh hit
      have gap : g ≠ p ∧ g ≠ c := kp20.at_.ne_of hS.2.1.fn fun _ z => by cases z
      show tSeq _ _ _ [some (V.ref sa), some (V.ref p), some (V.ref wa), some (V.ref m), some (.int (i : Int)), some lv, some hv, some lotv, some (.str (sortS hours)), some cv, some (.int sight), some (.ref g), some (.int ((lastOf cs : Nat) : Int)), some (.ref mi), some (.ref it), o15, o16, none, none, none] _
      -- a noted stranger
      have hnoted : ∀ {Hx : Hp} {σ : L2.St} {i : Nat} {l : Addr}, σ[11]? = some (some (.ref g)) → σ[i]? = some (some (.ref l)) → StrAt Hx g L wa ⟨kind, salt, W⟩ → Tabs T Hx → wa ≠ l → EF (tCall (spMaker T wNot frN 2) [] E0 (tCons (tVar 11) (tCons (tVar i) tNil))) σ Hx fun v H' => ∃ (n : Addr) (N : LF), v = .ref n ∧ NotAt H' n g l wa N L ⟨kind, salt, W⟩ ∧ ExtN Hx H' ∧ Tabs T H' := by
        intro Hx σ i l h11 hi hs tx al Q q
        refine ⟨_, h11, _, hi, ?_⟩
        refine ⟨rfl, tx, fun n H' eN t' hn cn => ?_⟩
        obtain ⟨N, hN⟩ := notAt_of hs al eN cn
        exact q _ H' ⟨n, N, rfl, hN, eN, t'⟩
      -- due
      have hdue : EF (tOp (rIx K) (tCall spPlay [] E0 (tCons (tVar 2) (tCons (tVar 9) (tCons (tVar 10) (tCons (tCall (spMaker T wNot frN 2) [] E0 (tCons (tVar 11) (tCons (tVar 13) tNil))) (tCons (tVar 12) tNil)))))) (tUn rNeg (tC (.int 1)))) [some (V.ref sa), some (V.ref p), some (V.ref wa), some (V.ref m), some (.int (i : Int)), some lv, some hv, some lotv, some (.str (sortS hours)), some cv, some (.int sight), some (.ref g), some (.int ((lastOf cs : Nat) : Int)), some (.ref mi), some (.ref it), o15, o16, none, none, none] H20
          fun v H' => ∃ (q : Addr) (xs ts : List V), v = .ref q ∧ q ≠ it ∧ H' q = some (.lst xs) ∧ DtA H' ((gAt ⟨kind, salt, W⟩ cs sight (lastOf cs)).rows.map dInts) xs ∧ H' mi = some (.lst ts) ∧ DtA H' ((asksTo ⟨kind, salt, W⟩ cs sight (lastOf cs)).map dAsked) ts ∧ Kp T p c H6 H' ∧ H' it = some (.lst []) ∧ StrAt H' g L wa ⟨kind, salt, W⟩ ∧ Dt H' (dCards cs) cv := by
        refine ef_op (G1 := fun v H1 => ∃ (pp q : Addr) (vs xs ts : List V), v = .ref pp ∧ H1 pp = some (.lst vs) ∧ vs.getLast? = some (.ref q) ∧ q ≠ it ∧ H1 q = some (.lst xs) ∧ DtA H1 ((gAt ⟨kind, salt, W⟩ cs sight (lastOf cs)).rows.map dInts) xs ∧ H1 mi = some (.lst ts) ∧ DtA H1 ((asksTo ⟨kind, salt, W⟩ cs sight (lastOf cs)).map dAsked) ts ∧ Kp T p c H6 H1 ∧ H1 it = some (.lst []) ∧ StrAt H1 g L wa ⟨kind, salt, W⟩ ∧ Dt H1 (dCards cs) cv) (G2 := fun _ H1 u H2 => u = .int (-1) ∧ Ex H1 H2)
          (ef_call (GA := fun ws H1 => ∃ (n : Addr) (N : LF), ws = [.ref wa, cv, .int sight, .ref n, .int ((lastOf cs : Nat) : Int)] ∧ NotAt H1 n g mi wa N L ⟨kind, salt, W⟩ ∧ ExtN H20 H1 ∧ Tabs T H1) ?_ fun ws H1 ⟨n, N, e, hN, eN, t1⟩ Q q => ?_) (fun v H1 _ => ef_ev (ev_neg ev_c)) fun v H1 u H2 ⟨pp, q, vs, xs, ts, e, h1, h2, qit, h3, h4, h5, h6, kk, h7, h8, h9⟩ ⟨eu, ex⟩ Q hQ => ?_
        · intro Q q
          refine ⟨_, rfl, _, rfl, _, rfl, (hnoted rfl rfl hS kp20.tabs wami) _ fun v H1 ⟨n, N, e, hN, eN, t1⟩ => ⟨_, rfl, ?_⟩⟩
          subst e
          exact q _ H1 ⟨n, N, rfl, hN, eN, t1⟩
        · subst e
          have kE : Kp T p c H20 H1 := Kp.extN kp20.at_ eN t1
          have k1 := kp20.trans kE
          have hm1' := kE.lst mip mic hm20
          refine ⟨wa, n, g, mi, N, L, ⟨kind, salt, W⟩, cv, cs, sight, lastOf cs, rfl, hN, hcv.tk (kE.tk kp20.at_), hm1', cok, hsi0, by omega, by omega, fun pp q' vs xs ts H2 f2 hl2 hts hpp0 hq0 hpp hlast hq hx => q _ H2 ⟨pp, q', vs, xs, ts, rfl, hpp, hlast, ?_, hq, hx, hl2, hts, k1.fr1 mip mic mi6 hm1' f2, f2 _ _ itmi (kE.lst itp itc hi20), ?_, ?_⟩⟩
          · intro z
            rw [z, kE.lst itp itc hi20] at hq0
            cases hq0
          · exact f2.str hm1' wami (kE.str kp20.at_ wap wac hS)
          · exact (hcv.tk (kE.tk kp20.at_)).tk (f2.tk hm1')
        · subst e eu
          refine .inl ⟨pp, vs, -1, .ref q, rfl, rfl, SqL.of (ex _ _ h1), atI_getLast h2, hQ _ H2 ⟨q, xs, ts, rfl, qit, ex _ _ h3, h4.ex ex, ex _ _ h5, h6.ex ex, kk.more ex, ex _ _ h7, (Kp.ex kk.at_ kk.tabs ex).str kk.at_ wap wac h8, h9.ex ex⟩⟩
      refine q_asgF hdue fun v H21 ⟨q, xs, ts1, e, qit, hq, hqx, hmi1, hts1, kp21, hit1, hS1, hcv1⟩ => ?_
      subst e
      clear hdue
      show tSeq _ _ _ [some (V.ref sa), some (V.ref p), some (V.ref wa), some (V.ref m), some (.int (i : Int)), some lv, some hv, some lotv, some (.str (sortS hours)), some cv, some (.int sight), some (.ref g), some (.int ((lastOf cs : Nat) : Int)), some (.ref mi), some (.ref it), some (.ref q), o16, none, none, none] _
      -- told
      have htold : EF (tCall (spStranger C) [] E0 (tCons (tVar 3) (tCons (tVar 9) (tCons (tVar 10) (tCons (tCall (spMaker T wNot frN 2) [] E0 (tCons (tVar 11) (tCons (tVar 14) tNil))) tNil))))) [some (V.ref sa), some (V.ref p), some (V.ref wa), some (V.ref m), some (.int (i : Int)), some lv, some hv, some lotv, some (.str (sortS hours)), some cv, some (.int sight), some (.ref g), some (.int ((lastOf cs : Nat) : Int)), some (.ref mi), some (.ref it), some (.ref q), o16, none, none, none] H21
          fun v H' => ∃ (ts2 : List V), Dt H' (dPadded cs (gAt ⟨kind, salt, W⟩ cs sight (lastOf cs)).rows) v ∧ H' q = some (.lst xs) ∧ DtA H' ((gAt ⟨kind, salt, W⟩ cs sight (lastOf cs)).rows.map dInts) xs ∧ H' mi = some (.lst ts1) ∧ DtA H' ((asksTo ⟨kind, salt, W⟩ cs sight (lastOf cs)).map dAsked) ts1 ∧ H' it = some (.lst ts2) ∧ DtA H' ((asksTo ⟨kind, salt, W⟩ cs sight (lastOf cs)).map dAsked) ts2 ∧ Kp T p c H6 H' ∧ Dt H' (dCards cs) cv := by
        refine ef_call (GA := fun ws H1 => ∃ (n : Addr) (N : LF), ws = [.ref m, cv, .int sight, .ref n] ∧ NotAt H1 n g it wa N L ⟨kind, salt, W⟩ ∧ ExtN H21 H1 ∧ Tabs T H1) ?_ fun ws H1 ⟨n, N, e, hN, eN, t1⟩ Q qq => ?_
        · intro Q qq
          refine ⟨_, rfl, _, rfl, _, rfl, (hnoted rfl rfl hS1 kp21.tabs wait) _ fun v H1 ⟨n, N, e, hN, eN, t1⟩ => ?_⟩
          subst e
          exact qq _ H1 ⟨n, N, rfl, hN, eN, t1⟩
        · subst e
          have kE : Kp T p c H21 H1 := Kp.extN kp21.at_ eN t1
          have k1 := kp21.trans kE
          have tkE := kE.tk kp21.at_
          have hit2 := kE.lst itp itc hit1
          have hq2 : H1 q = some (.lst xs) := eN _ _ hq (nt_lst _)
          have hmi2 : H1 mi = some (.lst ts1) := kE.lst mip mic hmi1
          refine ⟨m, it, n, g, wa, N, L, ⟨kind, salt, W⟩, cs, cv, .ref n, sight, lot, hours, [], [], rfl, k1.made P6 hM, wok, hcv1.tk tkE, fun cd hcd => (cOk cd hcd).1, by omega, List.all_eq_true.mpr fun cd hcd => (cOk cd hcd).2.1, fun _ => ⟨rfl, hN⟩, hit2, rfl, Nat.zero_le _, hsi0, fun cd hcd => (cOk cd hcd).2.2, fun v ts2 H2 f2 hl2 hts hpad => qq _ H2 ⟨ts2, hpad, f2 _ _ qit hq2, (hqx.tk tkE).tk (f2.tk hit2), f2 _ _ itmi.symm hmi2, (hts1.tk tkE).tk (f2.tk hit2), hl2, hts, k1.fr1 itp itc it6 hit2 f2, (hcv1.tk tkE).tk (f2.tk hit2)⟩⟩
      refine q_asgF htold fun tv H22 ⟨ts2, hpad, hq, hqx, hmi2, hts1, hit2, hts2, kp22, hcv2⟩ => ?_
      clear htold
      show tSeq _ _ _ [some (V.ref sa), some (V.ref p), some (V.ref wa), some (V.ref m), some (.int (i : Int)), some lv, some hv, some lotv, some (.str (sortS hours)), some cv, some (.int sight), some (.ref g), some (.int ((lastOf cs : Nat) : Int)), some (.ref mi), some (.ref it), some (.ref q), some tv, none, none, none] _
      have G0 := gAt_ok ⟨kind, salt, W⟩ cs sight wok (lastOf cs)
      refine q_when (b := false) (et_is (et_or (a := false) (b := false) (et_test (ev_neSame (d := dPadded cs (gAt ⟨kind, salt, W⟩ cs sight (lastOf cs)).rows) (ed_var rfl hpad) (ed_callP (eap_d (ed_var rfl hcv2) (eap_v (ev_var rfl) eap_nil)) fun ws H23 e23 hp Q qq => ?_) (lay_padded _ _) (by decide))) fun _ => et_test (ev_neLists rfl rfl hit2 hmi2 hts2 hts1 (lay_askeds _) (by decide))) rfl) (fun z => by cases z) fun _ H23 e23 => ?_
      · obtain ⟨x, _, rfl, hx, _, rfl, rfl⟩ := hp
        exact ⟨x, q, xs, cs, _, rfl, hx, e23 _ _ hq, hqx.ex e23, cok.n, G0.len, fun j hj => ⟨G0.le j hj, cok.wl _ (getD_mem hj)⟩, qq⟩
      · have hask : ∀ (qs : List Asked) (f : Asked → Bool), True := fun _ _ => trivial
        have al7 := asks_len (o := ⟨kind, salt, W⟩) (cs := cs) (sight := sight) wok (lastOf cs)
        refine s_when (b := false) (et_is (et_not (a := true) (et_B (ev_is (ev_allMap (l := asksTo ⟨kind, salt, W⟩ cs sight (lastOf cs)) (f := fun _ => true) (eld_bools (asksTo ⟨kind, salt, W⟩ cs sight (lastOf cs)) dAsked (fun _ => true) (es_list (ev_var rfl) (e23 _ _ hit2) (hts2.ex e23)) mono_name (by omega) fun x v H24 hx e24 hv => ⟨Ex.refl _, rfl, fun _ _ _ q => q _ (Ex.refl _), ?_⟩)) (by simp)))) rfl) (fun z => by cases z) fun _ H24 e24 => ?_
        · have hA : ∀ (i : Nat) (d : PyData), [iN x.road, .int x.tick, dWay x.waiting, .tuple (x.seen.map dSeen1), dPast x.past][i]? = some d → tyD d = "tuple" → ∀ {σ : L2.St}, σ[18]? = some (some v) → Ev (tCB (rIsiA K) (tCons (tOp (rIx K) (tVar 18) (tC (.int (i : Int)))) (tCons (tC (.ty "tuple")) tNil))) σ H24 (.bl true) := fun i d hd ht {σ} h18 => ev_isi (ed_ixn (ED.es (ed_var h18 hv)) ev_c hd) (by rw [ht]; decide +kernel)
          exact ev_andV (a := true) (b := true) (hA 2 _ rfl rfl rfl) fun _ => ev_andV (a := true) (b := true) (hA 3 _ rfl rfl rfl) fun _ => hA 4 _ rfl rfl rfl
        · exact ⟨_, _, _, _, _, _, _, _, _, _, _, _, _, rfl, kp22.more (e23.trans e24)⟩
    · obtain ⟨o4, o5, o6, o7, o8, o9, o10, o11, o12, o13, o14, o15, o16, rfl, kp7⟩ := q
      have hM7 := kp7.made P6 hM
      have hend : EF (tOp (rEqA K) (tCall (spStranger C) [] E0 (tCons (tVar 3) (tCons (tTup tNil) (tCons (tC (.int 3)) (tCons (tCall (spMaker T wStr frS 3) [] E0 (tCons (tC (.int 0)) (tCons (tC (.int 0)) (tCons (tVar 2) tNil)))) tNil))))) (tTup tNil)) [some (V.ref sa), some (V.ref p), some (V.ref wa), some (V.ref m), o4, o5, o6, o7, o8, o9, o10, o11, o12, o13, o14, o15, o16, none, none, none] H7 fun v _ => v = .bl true := by
        refine ef_op (G1 := fun v H1 => Dt H1 (.tuple []) v) (G2 := fun v _ u H2 => Dt H2 (.tuple []) u ∧ Dt H2 (.tuple []) v) (ef_call (GA := fun ws H1 => ∃ cv cho, ws = [.ref m, cv, .int 3, cho] ∧ Dt H1 (dCards []) cv ∧ Kp T p c H6 H1) ?_ fun ws H1 ⟨cv, cho, e, hcv, k1⟩ Q q => ?_) (fun v H1 hv => ?_) fun v H1 u H2 hv ⟨hu2, hv2⟩ Q q => ?_
        · intro Q q
          refine ⟨_, rfl, (ed_tup ead_nil (by decide) : ED (tTup tNil) _ H7 (.tuple [])) H7 (Ex.refl _) _ fun cv H8 e8 hcv => ⟨_, rfl, ?_⟩⟩
          have k8 := kp7.more e8
          refine ⟨rfl, k8.tabs, fun g H9 eN t9 hg cn => ?_⟩
          have kE : Kp T p c H8 H9 := Kp.extN k8.at_ eN t9
          exact q _ H9 ⟨cv, _, rfl, hcv.tk (kE.tk k8.at_), k8.trans kE⟩
        · subst e
          have hW1 := k1.web P6 wap wac hW6
          obtain ⟨wvs, hw1, hw2⟩ := hW1
          exact ⟨m, wa, 0, 0, 0, wStr.at [] 0, wStr.at [] 0, ⟨0, 0, W⟩, [], cv, cho, 3, [], true, dWeb W, wvs, rfl, k1.made P6 hM, wok, hcv, (fun x hx => by cases hx), Nat.zero_le _, rfl, fun z => absurd rfl z, hw1, hw2, by show 4 ≤ 1000; decide, by decide, (fun x hx => by cases hx), fun v ts H2 _ _ _ hv => q v H2 hv⟩
        · exact fun Q q => (ed_tup ead_nil (by decide) : ED (tTup tNil) _ H1 (.tuple [])) H1 (Ex.refl _) _ fun u H2 e2 hu => q u H2 ⟨hu, hv.ex e2⟩
        · refine .inr ⟨.tuple [], .tuple [], dt_dp _ _ hv2, dt_dp _ _ hu2, by decide, by decide, q _ H2 ?_⟩
          rw [SeqAt.eqv_refl _ (by decide)]
      exact s_retF hend fun v H' e => by
        subst e
        exact k H'
end
end Z
/-! Lz: all defs put together. -/
namespace Z
open PySem PySem.Spec PyProof.Rows L2 Evl LamX

def DefIn (K : PySem.W.Frag) (mg : Str → Option Value) (x : Str) (st : Stmt) : Prop := ∃ f fd, Fun K x x st f fd ∧ mg x = some (.ref f)
def MethIn (K : PySem.W.Frag) (C : Addr) (m qual : Str) (st : Stmt) : Prop := ∃ f fd, Fun K m qual st f fd ∧ Meth K C m f
def InitIn (K : PySem.W.Frag) (mg : Str → Option Value) (x : Str) (C : Addr) (qual : Str) (st : Stmt) : Prop := ∃ f fd, Fun K "__init__" qual st f fd ∧ Mk K C f ∧ mg x = some (.ref C)
def LamIn (K : PySem.W.Frag) (mg : Str → Option Value) (x : Str) (st : Stmt) (c : Addr) : Prop := ∃ f fd, FunL K x x st f fd c ∧ mg x = some (.ref f) ∧ PySem.W.keepIn K (.ref f) = true
section
variable {P : Program} {w : World} {K : PySem.W.Frag} {mg : Str → Option Value} {base h : Heap} {x m qual : Str} {st : Stmt} {k : Nat} {ps : List Str} {sp : Sp} {C f c : Addr} {oc kV dc pm cd ct : Value} {od an : Option Addr} {sl : Array (Option Value)}
theorem defIn_of (X : K.In h) (G : h.Ns mainGlobals mg) (a : PySem.W.nsIn K mainGlobals x = some (some (.ref f))) (l : K.lookup f = some ⟨oc, od, .func (PySem.W.fnOf x x (defArgs st) (defBody st) (defScope st) .none kV dc pm an cd ct), sl⟩)
    (c : PySem.W.codeIn K cd x = true) (q : PySem.W.keepIn K (.ref f) = true) : DefIn K mg x st := ⟨f, _, fun_mk (st := st) l c q, PySem.W.mg_of X G a⟩
theorem lamIn_of (X : K.In h) (G : h.Ns mainGlobals mg) (a : PySem.W.nsIn K mainGlobals x = some (some (.ref f))) (l : K.lookup f = some ⟨oc, od, .func (PySem.W.fnOf x x (defArgs st) (defBody st) (defScope st) .none kV dc pm an (.ref c) ct), sl⟩)
    (d : PySem.W.codeIn K (.ref c) x = true) (q : PySem.W.keepIn K (.ref f) = true) : LamIn K mg x st c := ⟨f, _, ⟨_, _, _, _, _, _, _, _, rfl, l, d⟩, PySem.W.mg_of X G a, q⟩
theorem methIn_of (a : PySem.W.findIn K (.ref C) m = some (some (.ref f))) (i : PySem.W.isFn K (.ref f) = true) (l : K.lookup f = some ⟨oc, od, .func (PySem.W.fnOf m qual (defArgs st) (defBody st) (defScope st) .none kV dc pm an cd ct), sl⟩)
    (c : PySem.W.codeIn K cd qual = true) (q : PySem.W.keepIn K (.ref f) = true) : MethIn K C m qual st := ⟨f, _, fun_mk (st := st) l c q, a, i, q⟩
theorem initIn_of (hC : mg x = some (.ref C)) (mk : PySem.W.makesIn K C = true) (kc : PySem.W.keepIn K (.ref C) = true) (a : PySem.W.findIn K (.ref C) "__init__" = some (some (.ref f))) (i : PySem.W.isFn K (.ref f) = true) (l : K.lookup f = some ⟨oc, od, .func (PySem.W.fnOf "__init__" qual (defArgs st) (defBody st) (defScope st) .none kV dc pm an cd ct), sl⟩)
    (c : PySem.W.codeIn K cd qual = true) (q : PySem.W.keepIn K (.ref f) = true) : InitIn K mg x C qual st := ⟨f, _, fun_mk (st := st) l c q, ⟨mk, a, i, kc⟩, hC⟩
theorem cal_of (d : DefIn K mg x st) (F : ∀ f fd, Fun K x x st f fd → FnOk P w K mg base CX0 k f fd ps sp)
    (b : ∀ (kV doc pm : Value) (an : Option Addr) (cdv ct : Value) (us : List Value), us.length = ps.length → bindArgs (PySem.W.fnOf x x (defArgs st) (defBody st) (defScope st) .none kV doc pm an cdv ct) ⟨us, []⟩ = pure (ps.zip us)) : Cal P w K mg base x k ps sp := by
  obtain ⟨f, fd, F0, hm⟩ := d
  exact ⟨f, fd, F f fd F0, hm, F0.kp, F0.binds b⟩
theorem calM_of (c : Cls K C) (d : MethIn K C m qual st) (F : ∀ f fd, Fun K m qual st f fd → FnOk P w K mg base CX0 k f fd ps sp)
    (b : ∀ (kV doc pm : Value) (an : Option Addr) (cdv ct : Value) (us : List Value), us.length = ps.length → bindArgs (PySem.W.fnOf m qual (defArgs st) (defBody st) (defScope st) .none kV doc pm an cdv ct) ⟨us, []⟩ = pure (ps.zip us)) : CalM P w K mg base C m k ps sp := by
  obtain ⟨f, fd, F0, hm⟩ := d
  exact ⟨c, f, fd, F f fd F0, hm, F0.binds b⟩
theorem calN_of (d : InitIn K mg x C qual st) (F : ∀ f fd, Fun K "__init__" qual st f fd → FnOk P w K mg base CX0 k f fd ps sp)
    (b : ∀ (kV doc pm : Value) (an : Option Addr) (cdv ct : Value) (us : List Value), us.length = ps.length → bindArgs (PySem.W.fnOf "__init__" qual (defArgs st) (defBody st) (defScope st) .none kV doc pm an cdv ct) ⟨us, []⟩ = pure (ps.zip us)) : CalN P w K mg base x C k ps sp := by
  obtain ⟨f, fd, F0, M, hm⟩ := d
  exact ⟨f, fd, F f fd F0, hm, M, F0.binds b⟩
theorem calL_of (d : LamIn K mg x st c) (F : ∀ f fd, FunL K x x st f fd c → FnOk P w K mg base CX0 k f fd ps sp)
    (b : ∀ (kV doc pm : Value) (an : Option Addr) (cdv ct : Value) (us : List Value), us.length = ps.length → bindArgs (PySem.W.fnOf x x (defArgs st) (defBody st) (defScope st) .none kV doc pm an cdv ct) ⟨us, []⟩ = pure (ps.zip us)) : Cal P w K mg base x k ps sp := by
  obtain ⟨f, fd, F0, hm, q⟩ := d
  refine ⟨f, fd, F f fd F0, hm, q, ?_⟩
  obtain ⟨oc, od, kV, doc, pm, an, ct, osl, rfl, lk, hcd⟩ := F0.ex
  exact Binds.all fun us hl => b kV doc pm an (.ref c) ct us hl
end
/-- the text, as its top leaves it -/
structure Txt (K : PySem.W.Frag) (mg : Str → Option Value) (C CG cS cN : Addr) : Prop where
  bl : Bl mg
  wc : WebC K C
  gc : GuiC K CG
  n1 : Num mg "MOST_HOUSES" 12
  n2 : Num mg "MOST_ROADS" 24
  n3 : Num mg "MOST_ROOMS" 3
  n4 : Num mg "MOST_TIME" 3
  n5 : Num mg "MOST_WAY" 8
  n6 : Num mg "FURTHER" 20
  d_is_integer : DefIn K mg "is_integer" s_is_integer
  d_is_within : DefIn K mg "is_within" s_is_within
  d_is_pair : DefIn K mg "is_pair" s_is_pair
  d_is_listed : DefIn K mg "is_listed" s_is_listed
  d_check_from : DefIn K mg "check_from" s_check_from
  d_are_roads : DefIn K mg "are_roads" s_are_roads
  d_are_counts : DefIn K mg "are_counts" s_are_counts
  d_Web_keep : MethIn K C "keep" "Web.keep" s_Web_keep
  d_Web_init : InitIn K mg "Web" C "Web.__init__" s_Web_init
  d_is_road : DefIn K mg "is_road" s_is_road
  d_is_way : DefIn K mg "is_way" s_is_way
  d_is_told : DefIn K mg "is_told" s_is_told
  d_could_be : DefIn K mg "could_be" s_could_be
  d_is_card : DefIn K mg "is_card" s_is_card
  d_are_right_cards : DefIn K mg "are_right_cards" s_are_right_cards
  d_told_roads : DefIn K mg "told_roads" s_told_roads
  d_check_some_cards : DefIn K mg "check_some_cards" s_check_some_cards
  d_l_draw : DefIn K mg "_law_draw" s_l_draw
  d_l_next : DefIn K mg "_law_next" s_l_next
  d_l_ready : DefIn K mg "_law_ready" s_l_ready
  d_l_waits : DefIn K mg "_law_waits" s_l_waits
  d_l_first : DefIn K mg "_law_first" s_l_first
  d_l_padded : DefIn K mg "_law_padded" s_l_padded
  d_l_picked : DefIn K mg "_law_picked" s_l_picked
  d_l_note : DefIn K mg "_law_note" s_l_note
  d_l_play : DefIn K mg "_law_play" s_l_play
  d_Guided_init : InitIn K mg "Guided" CG "Guided.__init__" s_Guided_init
  d_Guided_ready : MethIn K CG "ready" "Guided.ready" s_Guided_ready
  d_Guided_waits_at : MethIn K CG "waits_at" "Guided.waits_at" s_Guided_waits_at
  d_Guided_chosen : MethIn K CG "chosen" "Guided.chosen" s_Guided_chosen
  d_Guided_go : MethIn K CG "go" "Guided.go" s_Guided_go
  d_Guided_hours_so_far : MethIn K CG "hours_so_far" "Guided.hours_so_far" s_Guided_hours_so_far
  d_stranger_hours : DefIn K mg "stranger_hours" s_stranger_hours
  d_l_pool : DefIn K mg "_law_pool" s_l_pool
  d_l_lot : DefIn K mg "_law_lot" s_l_lot
  d_l_letter : DefIn K mg "_law_letter" s_l_letter
  d_l_web : DefIn K mg "_law_web" s_l_web
  d_l_web_of : DefIn K mg "_law_web_of" s_l_web_of
  d_l_led : DefIn K mg "_law_led" s_l_led
  d_l_cards : DefIn K mg "_law_cards" s_l_cards
  d_l_stranger : LamIn K mg "_law_stranger" s_l_stranger cS
  d_l_noted : LamIn K mg "_law_noted" s_l_noted cN
section
variable {P : Program} {w : World} {K : PySem.W.Frag} {mg : Str → Option Value} {base : Heap} {C CG cS cN PS PN : Addr}
theorem all_ok {f : Addr} {fd : FuncData} (F : Fun K "law" "law" s_law f fd) (T : Txt K mg C CG cS cN) (bS : TabB base mg cS PS) (bN : TabB base mg cN PN) (hne : PS ≠ PN) : FnOk P w K mg base CX0 9 f fd ["_law_script"] (spLaw [(PS, wStr.qual), (PN, wNot.qual)] K) := by
  have B := T.bl
  have c_is_integer : Cal P w K mg base "is_integer" 1 ["thing"] spIsInt := cal_of T.d_is_integer (fun f fd F => ok_is_integer F B) (fun _ _ _ _ _ _ us hl => match us, hl with | [_], _ => rfl)
  have c_is_within : Cal P w K mg base "is_within" 2 ["thing", "least", "most"] spWithin := cal_of T.d_is_within (fun f fd F => ok_is_within F B c_is_integer) (fun _ _ _ _ _ _ us hl => match us, hl with | [_, _, _], _ => rfl)
  have c_is_pair : Cal P w K mg base "is_pair" 1 ["thing"] spIsPair := cal_of T.d_is_pair (fun f fd F => ok_is_pair F B) (fun _ _ _ _ _ _ us hl => match us, hl with | [_], _ => rfl)
  have c_is_listed : Cal P w K mg base "is_listed" 1 ["thing"] spIsListed := cal_of T.d_is_listed (fun f fd F => ok_is_listed F B) (fun _ _ _ _ _ _ us hl => match us, hl with | [_], _ => rfl)
  have c_check_from : Cal P w K mg base "check_from" 2 ["thing", "least"] spFrom := cal_of T.d_check_from (fun f fd F => ok_check_from F B c_is_integer) (fun _ _ _ _ _ _ us hl => match us, hl with | [_, _], _ => rfl)
  have c_are_roads : Cal P w K mg base "are_roads" 3 ["thing", "houses"] spRoads := cal_of T.d_are_roads (fun f fd F => ok_are_roads F B c_is_pair c_is_within T.n2) (fun _ _ _ _ _ _ us hl => match us, hl with | [_, _], _ => rfl)
  have c_are_counts : Cal P w K mg base "are_counts" 3 ["thing", "many", "most"] spCounts := cal_of T.d_are_counts (fun f fd F => ok_are_counts F B c_is_within) (fun _ _ _ _ _ _ us hl => match us, hl with | [_, _, _], _ => rfl)
  have c_keep : CalM P w K mg base C "keep" 1 ["self", "houses", "roads", "rooms", "times"] (spKeep C) := calM_of T.wc.cls T.d_Web_keep (fun f fd F => ok_keep F B T.wc) (fun _ _ _ _ _ _ us hl => match us, hl with | [_, _, _, _, _], _ => rfl)
  have c_Web : CalN P w K mg base "Web" C 4 ["self", "houses", "roads", "rooms", "times"] (spKeep C) := calN_of T.d_Web_init (fun f fd F => ok_web_init F B c_is_within c_are_roads c_are_counts c_keep T.n1 T.n3 T.n4) (fun _ _ _ _ _ _ us hl => match us, hl with | [_, _, _, _, _], _ => rfl)
  have c_is_road : Cal P w K mg base "is_road" 3 ["web", "thing"] (spIsRoad C) := cal_of T.d_is_road (fun f fd F => ok_is_road F B T.wc c_is_within) (fun _ _ _ _ _ _ us hl => match us, hl with | [_, _], _ => rfl)
  have c_is_way : Cal P w K mg base "is_way" 4 ["web", "thing"] (spIsWay C) := cal_of T.d_is_way (fun f fd F => ok_is_way F B T.wc T.n5 c_is_road) (fun _ _ _ _ _ _ us hl => match us, hl with | [_, _], _ => rfl)
  have c_is_told : Cal P w K mg base "is_told" 2 ["way", "told", "lot"] spIsTold := cal_of T.d_is_told (fun f fd F => ok_is_told F B c_is_integer) (fun _ _ _ _ _ _ us hl => match us, hl with | [_, _, _], _ => rfl)
  have c_could_be : Cal P w K mg base "could_be" 1 ["web", "way", "come", "home", "told"] (spCould C) := cal_of T.d_could_be (fun f fd F => ok_could_be F B T.wc) (fun _ _ _ _ _ _ us hl => match us, hl with | [_, _, _, _, _], _ => rfl)
  have c_is_card : Cal P w K mg base "is_card" 5 ["web", "lot", "sort", "thing"] (spIsCard C) := cal_of T.d_is_card (fun f fd F => ok_is_card F B c_is_way c_is_integer c_is_told c_could_be) (fun _ _ _ _ _ _ us hl => match us, hl with | [_, _, _, _], _ => rfl)
  have c_are_right_cards : Cal P w K mg base "are_right_cards" 6 ["web", "lot", "sort", "thing"] (spRight C) := cal_of T.d_are_right_cards (fun f fd F => ok_are_right_cards F B c_is_card) (fun _ _ _ _ _ _ us hl => match us, hl with | [_, _, _, _], _ => rfl)
  have c_told_roads : Cal P w K mg base "told_roads" 5 ["web", "thing"] (spToldRoads C) := cal_of T.d_told_roads (fun f fd F => ok_told_roads F B c_is_way) (fun _ _ _ _ _ _ us hl => match us, hl with | [_, _], _ => rfl)
  have c_check_some_cards : Cal P w K mg base "check_some_cards" 7 ["web", "thing"] (spCheck C) := cal_of T.d_check_some_cards (fun f fd F => ok_check_some_cards F B c_told_roads c_are_right_cards) (fun _ _ _ _ _ _ us hl => match us, hl with | [_, _], _ => rfl)
  have c_l_draw : Cal P w K mg base "_law_draw" 1 ["_law_pool_here", "_law_many"] spDraw := cal_of T.d_l_draw (fun f fd F => ok_l_draw F B) (fun _ _ _ _ _ _ us hl => match us, hl with | [_, _], _ => rfl)
  have c_l_next : Cal P w K mg base "_law_next" 1 ["_law_web_here", "_law_road"] spNext := cal_of T.d_l_next (fun f fd F => ok_l_next F B) (fun _ _ _ _ _ _ us hl => match us, hl with | [_, _], _ => rfl)
  have c_l_ready : Cal P w K mg base "_law_ready" 1 ["_law_web_here", "_law_letter_here", "_law_row"] spReady := cal_of T.d_l_ready (fun f fd F => ok_l_ready F B) (fun _ _ _ _ _ _ us hl => match us, hl with | [_, _, _], _ => rfl)
  have c_l_waits : Cal P w K mg base "_law_waits" 2 ["_law_web_here", "_law_letters", "_law_rows", "_law_tick"] spWaits := cal_of T.d_l_waits (fun f fd F => ok_l_waits F B c_l_ready) (fun _ _ _ _ _ _ us hl => match us, hl with | [_, _, _, _], _ => rfl)
  have c_l_first : Cal P w K mg base "_law_first" 1 ["_law_cards_here", "_law_tick"] spFirst := cal_of T.d_l_first (fun f fd F => ok_l_first F B) (fun _ _ _ _ _ _ us hl => match us, hl with | [_, _], _ => rfl)
  have c_l_padded : Cal P w K mg base "_law_padded" 1 ["_law_cards_here", "_law_rows"] spPadded := cal_of T.d_l_padded (fun f fd F => ok_l_padded F B) (fun _ _ _ _ _ _ us hl => match us, hl with | [_, _], _ => rfl)
  have c_l_picked : Cal P w K mg base "_law_picked" 1 ["_law_kind", "_law_salt", "_law_web_here", "_law_road", "_law_tick", "_law_waiting", "_law_seen", "_law_past"] spPicked := cal_of T.d_l_picked (fun f fd F => ok_l_picked F B) (fun _ _ _ _ _ _ us hl => match us, hl with | [_, _, _, _, _, _, _, _], _ => rfl)
  have c_l_note : Cal P w K mg base "_law_note" 3 ["_law_choose", "_law_notes", "_law_asked"] spNote := cal_of T.d_l_note (fun f fd F => ok_l_note F B (runs_str c_l_picked)) (fun _ _ _ _ _ _ us hl => match us, hl with | [_, _, _], _ => rfl)
  have c_l_play : Cal P w K mg base "_law_play" 5 ["_law_web_here", "_law_cards_here", "_law_sight", "_law_choose", "_law_last"] spPlay := cal_of T.d_l_play (fun f fd F => ok_l_play F B (runs_not c_l_note) c_l_waits c_l_first) (fun _ _ _ _ _ _ us hl => match us, hl with | [_, _, _, _, _], _ => rfl)
  have c_Guided : CalN P w K mg base "Guided" CG 1 ["self", "web", "cards", "ahead", "choose"] (spGInit CG) := calN_of T.d_Guided_init (fun f fd F => ok_g_init F B T.gc) (fun _ _ _ _ _ _ us hl => match us, hl with | [_, _, _, _, _], _ => rfl)
  have c_ready : CalM P w K mg base CG "ready" 1 ["self", "number"] (spGReady C CG) := calM_of T.gc.cls T.d_Guided_ready (fun f fd F => ok_g_ready F B T.gc T.wc) (fun _ _ _ _ _ _ us hl => match us, hl with | [_, _], _ => rfl)
  have c_waits_at : CalM P w K mg base CG "waits_at" 2 ["self", "tick"] (spGWaits C CG) := calM_of T.gc.cls T.d_Guided_waits_at (fun f fd F => ok_g_waits F B T.gc c_ready) (fun _ _ _ _ _ _ us hl => match us, hl with | [_, _], _ => rfl)
  have c_chosen : CalM P w K mg base CG "chosen" 5 ["self", "road", "tick", "waits"] (spChosen C CG) := calM_of T.gc.cls T.d_Guided_chosen (fun f fd F => ok_g_chosen F B T.gc T.wc (runs_not c_l_note) c_is_listed c_is_integer) (fun _ _ _ _ _ _ us hl => match us, hl with | [_, _, _, _], _ => rfl)
  have c_go : CalM P w K mg base CG "go" 6 ["self", "tick"] (spGo C CG) := calM_of T.gc.cls T.d_Guided_go (fun f fd F => ok_g_go F B T.gc c_waits_at c_chosen) (fun _ _ _ _ _ _ us hl => match us, hl with | [_, _], _ => rfl)
  have c_hours_so_far : CalM P w K mg base CG "hours_so_far" 1 ["self"] (spHours C CG) := calM_of T.gc.cls T.d_Guided_hours_so_far (fun f fd F => ok_g_hours F B T.gc) (fun _ _ _ _ _ _ us hl => match us, hl with | [_], _ => rfl)
  have c_stranger_hours : Cal P w K mg base "stranger_hours" 8 ["web", "cards", "ahead", "choose"] (spStranger C) := cal_of T.d_stranger_hours (fun f fd F => ok_stranger_hours F B c_check_some_cards c_check_from c_Guided c_go c_hours_so_far T.n6) (fun _ _ _ _ _ _ us hl => match us, hl with | [_, _, _, _], _ => rfl)
  have c_l_pool : Cal P w K mg base "_law_pool" 1 ["_law_script"] (spPool K) := cal_of T.d_l_pool (fun f fd F => ok_l_pool F B) (fun _ _ _ _ _ _ us hl => match us, hl with | [_], _ => rfl)
  have c_l_lot : Cal P w K mg base "_law_lot" 2 ["_law_pool_here", "_law_web_here"] spLot := cal_of T.d_l_lot (fun f fd F => ok_l_lot F B c_l_draw) (fun _ _ _ _ _ _ us hl => match us, hl with | [_, _], _ => rfl)
  have c_l_letter : Cal P w K mg base "_law_letter" 2 ["_law_pool_here", "_law_web_here", "_law_most", "_law_span"] spLetter := cal_of T.d_l_letter (fun f fd F => ok_l_letter F B c_l_draw c_l_next) (fun _ _ _ _ _ _ us hl => match us, hl with | [_, _, _, _], _ => rfl)
  have c_l_web : Cal P w K mg base "_law_web" 2 ["_law_pool_here", "_law_size", "_law_rooms", "_law_times"] spWeb := cal_of T.d_l_web (fun f fd F => ok_l_web F B c_l_draw) (fun _ _ _ _ _ _ us hl => match us, hl with | [_, _, _, _], _ => rfl)
  have c_l_web_of : Cal P w K mg base "_law_web_of" 6 ["_law_web_here"] (spWebOf C) := cal_of T.d_l_web_of (fun f fd F => ok_l_web_of F B c_Web) (fun _ _ _ _ _ _ us hl => match us, hl with | [_], _ => rfl)
  have c_l_led : Cal P w K mg base "_law_led" 3 ["_law_pool_here", "_law_web_here", "_law_letters"] spLed := cal_of T.d_l_led (fun f fd F => ok_l_led F B c_l_draw c_l_waits) (fun _ _ _ _ _ _ us hl => match us, hl with | [_, _, _], _ => rfl)
  have c_l_cards : Cal P w K mg base "_law_cards" 1 ["_law_web_here", "_law_letters", "_law_hours", "_law_lot_here", "_law_sort"] spCards := cal_of T.d_l_cards (fun f fd F => ok_l_cards F B) (fun _ _ _ _ _ _ us hl => match us, hl with | [_, _, _, _, _], _ => rfl)
  have c_l_stranger : Cal P w K mg base "_law_stranger" 1 frS (spMaker [(PS, wStr.qual), (PN, wNot.qual)] wStr frS 3) := calL_of T.d_l_stranger (fun f fd F => ok_l_stranger F bS (List.mem_cons_self ..) fun q hq e => by
    rcases List.mem_cons.mp hq with rfl | hq
    · rfl
    · rw [List.mem_singleton.mp hq] at e
      exact absurd e.symm hne) (fun _ _ _ _ _ _ us hl => match us, hl with | [_, _, _], _ => rfl)
  have c_l_noted : Cal P w K mg base "_law_noted" 1 frN (spMaker [(PS, wStr.qual), (PN, wNot.qual)] wNot frN 2) := calL_of T.d_l_noted (fun f fd F => ok_l_noted F bN (List.mem_cons_of_mem _ (List.mem_singleton.mpr rfl)) fun q hq e => by
    rcases List.mem_cons.mp hq with rfl | hq
    · exact absurd e hne
    · rw [List.mem_singleton.mp hq]) (fun _ _ _ _ _ _ us hl => match us, hl with | [_, _], _ => rfl)
  exact ok_law F B c_l_pool c_l_web c_l_web_of c_l_draw c_l_letter c_l_led c_l_lot c_l_cards c_l_stranger c_l_noted c_l_play c_stranger_hours c_l_padded
theorem law_at {l : PySem.W.OpenLaw} {w : World} {K : PySem.W.Frag} {mg : Str → Option Value} {h : Heap} {fa : Addr} (X : K.In h) (hfa : mg "law" = some (.ref fa)) (dl : DefIn K mg "law" s_law) (T : Txt K mg C CG cS cN) (hne : PS ≠ PN)
    (tS : h.get? PS = some { cls := .none, data := .fields #[] }) (tN : h.get? PN = some { cls := .none, data := .fields #[] }) (nS : K.lookup PS = none) (nN : K.lookup PN = none) (cS' : PySem.W.codeHdIn K cS PS = true) (cN' : PySem.W.codeHdIn K cN PN = true) :
    LamX.LawAtS l w K CX0 9 63 "_law_script" mg fa h := by
  obtain ⟨f, fd, F, hm⟩ := dl
  rw [hfa] at hm
  cases hm
  have two : ∀ {R : Addr × Addr → Prop}, R (cS, PS) → R (cN, PN) → ∀ p ∈ [(cS, PS), (cN, PN)], R p := fun a b p hp => by
    rcases List.mem_cons.mp hp with rfl | hp
    · exact a
    · rw [List.mem_singleton.mp hp]
      exact b
  refine ⟨fd, [(cS, PS), (cN, PN)], spLaw [(PS, wStr.qual), (PN, wNot.qual)] K, two tS tN, two nS nN, two (PySem.W.codeHd_of_K X cS') (PySem.W.codeHd_of_K X cN'), ?_, fun H a ns hl hb hT hS => ⟨a, ns, rfl, hS, hl, ?_, fun _ => rfl⟩, fun base _ _ hB => all_ok F T (hB _ (List.mem_cons_self ..)) (hB _ (List.mem_cons_of_mem _ (List.mem_singleton.mpr rfl))) hne⟩
  · obtain ⟨oc, od, kV, doc, pm, an, cdv, ct, osl, rfl, lk, hcd⟩ := F.ex
    exact fun s u => .of_eq rfl
  · intro q hq
    rcases List.mem_cons.mp hq with rfl | hq
    · exact TabS.nil (hT (cS, PS) (List.mem_cons_self ..))
    · rw [List.mem_singleton.mp hq]
      exact TabS.nil (hT (cN, PN) (List.mem_cons_of_mem _ (List.mem_singleton.mpr rfl)))
end
theorem fin {l : PySem.W.OpenLaw} {w : World} {K : PySem.W.Frag} {mg : Str → Option Value} {h : Heap} {fa C CG cS cN PS PN fS fN : Addr}
    {f0 : Addr} {oc0 kV0 dc0 pm0 cd0 ct0 : Value} {od0 an0 : Option Addr} {sl0 : Array (Option Value)}
    {f1 : Addr} {oc1 kV1 dc1 pm1 cd1 ct1 : Value} {od1 an1 : Option Addr} {sl1 : Array (Option Value)}
    {f2 : Addr} {oc2 kV2 dc2 pm2 cd2 ct2 : Value} {od2 an2 : Option Addr} {sl2 : Array (Option Value)}
    {f3 : Addr} {oc3 kV3 dc3 pm3 cd3 ct3 : Value} {od3 an3 : Option Addr} {sl3 : Array (Option Value)}
    {f4 : Addr} {oc4 kV4 dc4 pm4 cd4 ct4 : Value} {od4 an4 : Option Addr} {sl4 : Array (Option Value)}
    {f5 : Addr} {oc5 kV5 dc5 pm5 cd5 ct5 : Value} {od5 an5 : Option Addr} {sl5 : Array (Option Value)}
    {f6 : Addr} {oc6 kV6 dc6 pm6 cd6 ct6 : Value} {od6 an6 : Option Addr} {sl6 : Array (Option Value)}
    {f7 : Addr} {oc7 kV7 dc7 pm7 cd7 ct7 : Value} {od7 an7 : Option Addr} {sl7 : Array (Option Value)}
    {ocS kVS dcS pmS ctS ocN kVN dcN pmN ctN : Value} {odS anS odN anN : Option Addr} {slS slN : Array (Option Value)} {t1 t2 t3 t4 t5 t6 : Tok}
    (X : K.In h) (G : h.Ns mainGlobals mg) (hfa : mg "law" = some (.ref fa)) (dl : DefIn K mg "law" s_law)
    (d_is_integer : DefIn K mg "is_integer" s_is_integer)
    (d_is_within : DefIn K mg "is_within" s_is_within)
    (d_is_pair : DefIn K mg "is_pair" s_is_pair)
    (d_is_listed : DefIn K mg "is_listed" s_is_listed)
    (d_check_from : DefIn K mg "check_from" s_check_from)
    (d_are_roads : DefIn K mg "are_roads" s_are_roads)
    (d_are_counts : DefIn K mg "are_counts" s_are_counts)
    (d_is_road : DefIn K mg "is_road" s_is_road)
    (d_is_way : DefIn K mg "is_way" s_is_way)
    (d_is_told : DefIn K mg "is_told" s_is_told)
    (d_could_be : DefIn K mg "could_be" s_could_be)
    (d_is_card : DefIn K mg "is_card" s_is_card)
    (d_are_right_cards : DefIn K mg "are_right_cards" s_are_right_cards)
    (d_told_roads : DefIn K mg "told_roads" s_told_roads)
    (d_check_some_cards : DefIn K mg "check_some_cards" s_check_some_cards)
    (d_l_draw : DefIn K mg "_law_draw" s_l_draw)
    (d_l_next : DefIn K mg "_law_next" s_l_next)
    (d_l_ready : DefIn K mg "_law_ready" s_l_ready)
    (d_l_waits : DefIn K mg "_law_waits" s_l_waits)
    (d_l_first : DefIn K mg "_law_first" s_l_first)
    (d_l_padded : DefIn K mg "_law_padded" s_l_padded)
    (d_l_picked : DefIn K mg "_law_picked" s_l_picked)
    (d_l_note : DefIn K mg "_law_note" s_l_note)
    (d_l_play : DefIn K mg "_law_play" s_l_play)
    (d_stranger_hours : DefIn K mg "stranger_hours" s_stranger_hours)
    (d_l_pool : DefIn K mg "_law_pool" s_l_pool)
    (d_l_lot : DefIn K mg "_law_lot" s_l_lot)
    (d_l_letter : DefIn K mg "_law_letter" s_l_letter)
    (d_l_web : DefIn K mg "_law_web" s_l_web)
    (d_l_web_of : DefIn K mg "_law_web_of" s_l_web_of)
    (d_l_led : DefIn K mg "_law_led" s_l_led)
    (d_l_cards : DefIn K mg "_law_cards" s_l_cards)
    (hne : PS ≠ PN) (tS : h.get? PS = some { cls := .none, data := .fields #[] }) (tN : h.get? PN = some { cls := .none, data := .fields #[] })
    (aC : PySem.W.nsIn K mainGlobals "Web" = some (some (.ref C)))
    (pgC : PySem.W.plainGet K C Str.empty = true)
    (hdC : PySem.W.hasDictIn K C = true)
    (poC : PySem.W.plainOver K C = true)
    (saC : PySem.W.findIn K (.ref C) "__setattr__" = some (some (.builtin "object.__setattr__")))
    (mkC : PySem.W.makesIn K C = true)
    (kcC : PySem.W.keepIn K (.ref C) = true)
    (naC0 : PySem.W.findIn K (.ref C) "houses" = some none)
    (naC1 : PySem.W.findIn K (.ref C) "roads" = some none)
    (naC2 : PySem.W.findIn K (.ref C) "rooms" = some none)
    (naC3 : PySem.W.findIn K (.ref C) "times" = some none)
    (naC4 : PySem.W.findIn K (.ref C) "kept_next" = some none)
    (naC5 : PySem.W.findIn K (.ref C) "kept_leads" = some none)
    (aCG : PySem.W.nsIn K mainGlobals "Guided" = some (some (.ref CG)))
    (pgCG : PySem.W.plainGet K CG Str.empty = true)
    (hdCG : PySem.W.hasDictIn K CG = true)
    (poCG : PySem.W.plainOver K CG = true)
    (saCG : PySem.W.findIn K (.ref CG) "__setattr__" = some (some (.builtin "object.__setattr__")))
    (mkCG : PySem.W.makesIn K CG = true)
    (kcCG : PySem.W.keepIn K (.ref CG) = true)
    (naCG0 : PySem.W.findIn K (.ref CG) "web" = some none)
    (naCG1 : PySem.W.findIn K (.ref CG) "cards" = some none)
    (naCG2 : PySem.W.findIn K (.ref CG) "ahead" = some none)
    (naCG3 : PySem.W.findIn K (.ref CG) "choose" = some none)
    (naCG4 : PySem.W.findIn K (.ref CG) "rows" = some none)
    (naCG5 : PySem.W.findIn K (.ref CG) "past" = some none)
    (ma0 : PySem.W.findIn K (.ref C) "keep" = some (some (.ref f0)))
    (mi0 : PySem.W.isFn K (.ref f0) = true)
    (ml0 : K.lookup f0 = some ⟨oc0, od0, .func (PySem.W.fnOf "keep" "Web.keep" (defArgs s_Web_keep) (defBody s_Web_keep) (defScope s_Web_keep) .none kV0 dc0 pm0 an0 cd0 ct0), sl0⟩)
    (mc0 : PySem.W.codeIn K cd0 "Web.keep" = true)
    (mq0 : PySem.W.keepIn K (.ref f0) = true)
    (ma1 : PySem.W.findIn K (.ref C) "__init__" = some (some (.ref f1)))
    (mi1 : PySem.W.isFn K (.ref f1) = true)
    (ml1 : K.lookup f1 = some ⟨oc1, od1, .func (PySem.W.fnOf "__init__" "Web.__init__" (defArgs s_Web_init) (defBody s_Web_init) (defScope s_Web_init) .none kV1 dc1 pm1 an1 cd1 ct1), sl1⟩)
    (mc1 : PySem.W.codeIn K cd1 "Web.__init__" = true)
    (mq1 : PySem.W.keepIn K (.ref f1) = true)
    (ma2 : PySem.W.findIn K (.ref CG) "__init__" = some (some (.ref f2)))
    (mi2 : PySem.W.isFn K (.ref f2) = true)
    (ml2 : K.lookup f2 = some ⟨oc2, od2, .func (PySem.W.fnOf "__init__" "Guided.__init__" (defArgs s_Guided_init) (defBody s_Guided_init) (defScope s_Guided_init) .none kV2 dc2 pm2 an2 cd2 ct2), sl2⟩)
    (mc2 : PySem.W.codeIn K cd2 "Guided.__init__" = true)
    (mq2 : PySem.W.keepIn K (.ref f2) = true)
    (ma3 : PySem.W.findIn K (.ref CG) "ready" = some (some (.ref f3)))
    (mi3 : PySem.W.isFn K (.ref f3) = true)
    (ml3 : K.lookup f3 = some ⟨oc3, od3, .func (PySem.W.fnOf "ready" "Guided.ready" (defArgs s_Guided_ready) (defBody s_Guided_ready) (defScope s_Guided_ready) .none kV3 dc3 pm3 an3 cd3 ct3), sl3⟩)
    (mc3 : PySem.W.codeIn K cd3 "Guided.ready" = true)
    (mq3 : PySem.W.keepIn K (.ref f3) = true)
    (ma4 : PySem.W.findIn K (.ref CG) "waits_at" = some (some (.ref f4)))
    (mi4 : PySem.W.isFn K (.ref f4) = true)
    (ml4 : K.lookup f4 = some ⟨oc4, od4, .func (PySem.W.fnOf "waits_at" "Guided.waits_at" (defArgs s_Guided_waits_at) (defBody s_Guided_waits_at) (defScope s_Guided_waits_at) .none kV4 dc4 pm4 an4 cd4 ct4), sl4⟩)
    (mc4 : PySem.W.codeIn K cd4 "Guided.waits_at" = true)
    (mq4 : PySem.W.keepIn K (.ref f4) = true)
    (ma5 : PySem.W.findIn K (.ref CG) "chosen" = some (some (.ref f5)))
    (mi5 : PySem.W.isFn K (.ref f5) = true)
    (ml5 : K.lookup f5 = some ⟨oc5, od5, .func (PySem.W.fnOf "chosen" "Guided.chosen" (defArgs s_Guided_chosen) (defBody s_Guided_chosen) (defScope s_Guided_chosen) .none kV5 dc5 pm5 an5 cd5 ct5), sl5⟩)
    (mc5 : PySem.W.codeIn K cd5 "Guided.chosen" = true)
    (mq5 : PySem.W.keepIn K (.ref f5) = true)
    (ma6 : PySem.W.findIn K (.ref CG) "go" = some (some (.ref f6)))
    (mi6 : PySem.W.isFn K (.ref f6) = true)
    (ml6 : K.lookup f6 = some ⟨oc6, od6, .func (PySem.W.fnOf "go" "Guided.go" (defArgs s_Guided_go) (defBody s_Guided_go) (defScope s_Guided_go) .none kV6 dc6 pm6 an6 cd6 ct6), sl6⟩)
    (mc6 : PySem.W.codeIn K cd6 "Guided.go" = true)
    (mq6 : PySem.W.keepIn K (.ref f6) = true)
    (ma7 : PySem.W.findIn K (.ref CG) "hours_so_far" = some (some (.ref f7)))
    (mi7 : PySem.W.isFn K (.ref f7) = true)
    (ml7 : K.lookup f7 = some ⟨oc7, od7, .func (PySem.W.fnOf "hours_so_far" "Guided.hours_so_far" (defArgs s_Guided_hours_so_far) (defBody s_Guided_hours_so_far) (defScope s_Guided_hours_so_far) .none kV7 dc7 pm7 an7 cd7 ct7), sl7⟩)
    (mc7 : PySem.W.codeIn K cd7 "Guided.hours_so_far" = true)
    (mq7 : PySem.W.keepIn K (.ref f7) = true)
    (laS : PySem.W.nsIn K mainGlobals "_law_stranger" = some (some (.ref fS)))
    (llS : K.lookup fS = some ⟨ocS, odS, .func (PySem.W.fnOf "_law_stranger" "_law_stranger" (defArgs s_l_stranger) (defBody s_l_stranger) (defScope s_l_stranger) .none kVS dcS pmS anS (.ref cS) ctS), slS⟩)
    (lcS : PySem.W.codeIn K (.ref cS) "_law_stranger" = true)
    (lqS : PySem.W.keepIn K (.ref fS) = true)
    (lhS : PySem.W.codeHdIn K cS PS = true)
    (lnS : K.lookup PS = none)
    (laN : PySem.W.nsIn K mainGlobals "_law_noted" = some (some (.ref fN)))
    (llN : K.lookup fN = some ⟨ocN, odN, .func (PySem.W.fnOf "_law_noted" "_law_noted" (defArgs s_l_noted) (defBody s_l_noted) (defScope s_l_noted) .none kVN dcN pmN anN (.ref cN) ctN), slN⟩)
    (lcN : PySem.W.codeIn K (.ref cN) "_law_noted" = true)
    (lqN : PySem.W.keepIn K (.ref fN) = true)
    (lhN : PySem.W.codeHdIn K cN PN = true)
    (lnN : K.lookup PN = none)
    (z_len : PySem.W.nsIn K mainGlobals "len" = some none)
    (z_range : PySem.W.nsIn K mainGlobals "range" = some none)
    (z_sorted : PySem.W.nsIn K mainGlobals "sorted" = some none)
    (z_tuple : PySem.W.nsIn K mainGlobals "tuple" = some none)
    (z_list : PySem.W.nsIn K mainGlobals "list" = some none)
    (z_int : PySem.W.nsIn K mainGlobals "int" = some none)
    (z_bool : PySem.W.nsIn K mainGlobals "bool" = some none)
    (z_dict : PySem.W.nsIn K mainGlobals "dict" = some none)
    (z_set : PySem.W.nsIn K mainGlobals "set" = some none)
    (z_max : PySem.W.nsIn K mainGlobals "max" = some none)
    (z_sum : PySem.W.nsIn K mainGlobals "sum" = some none)
    (z_abs : PySem.W.nsIn K mainGlobals "abs" = some none)
    (z_isinstance : PySem.W.nsIn K mainGlobals "isinstance" = some none)
    (z_all : PySem.W.nsIn K mainGlobals "all" = some none)
    (z_any : PySem.W.nsIn K mainGlobals "any" = some none)
    (z_enumerate : PySem.W.nsIn K mainGlobals "enumerate" = some none)
    (z_zip : PySem.W.nsIn K mainGlobals "zip" = some none)
    (k_n1 : PySem.W.nsIn K mainGlobals "MOST_HOUSES" = some (some (.int 12 t1)))
    (k_n2 : PySem.W.nsIn K mainGlobals "MOST_ROADS" = some (some (.int 24 t2)))
    (k_n3 : PySem.W.nsIn K mainGlobals "MOST_ROOMS" = some (some (.int 3 t3)))
    (k_n4 : PySem.W.nsIn K mainGlobals "MOST_TIME" = some (some (.int 3 t4)))
    (k_n5 : PySem.W.nsIn K mainGlobals "MOST_WAY" = some (some (.int 8 t5)))
    (k_n6 : PySem.W.nsIn K mainGlobals "FURTHER" = some (some (.int 20 t6))) : LamX.LawAtS l w K CX0 9 63 "_law_script" mg fa h := by
  have wc : WebC K C := ⟨⟨pgC, hdC, poC, saC⟩, fun f hf => by
      simp only [List.mem_cons, List.not_mem_nil, or_false] at hf
      rcases hf with rfl | rfl | rfl | rfl | rfl | rfl
      · exact naC0
      · exact naC1
      · exact naC2
      · exact naC3
      · exact naC4
      · exact naC5⟩
  have gc : GuiC K CG := ⟨⟨pgCG, hdCG, poCG, saCG⟩, fun f hf => by
      simp only [List.mem_cons, List.not_mem_nil, or_false] at hf
      rcases hf with rfl | rfl | rfl | rfl | rfl | rfl
      · exact naCG0
      · exact naCG1
      · exact naCG2
      · exact naCG3
      · exact naCG4
      · exact naCG5⟩
  have bl : Bl mg := ⟨PySem.W.mg_none_of X G z_len, PySem.W.mg_none_of X G z_range, PySem.W.mg_none_of X G z_sorted, PySem.W.mg_none_of X G z_tuple, PySem.W.mg_none_of X G z_list, PySem.W.mg_none_of X G z_int, PySem.W.mg_none_of X G z_bool, PySem.W.mg_none_of X G z_dict, PySem.W.mg_none_of X G z_set, PySem.W.mg_none_of X G z_max, PySem.W.mg_none_of X G z_sum, PySem.W.mg_none_of X G z_abs, PySem.W.mg_none_of X G z_isinstance, PySem.W.mg_none_of X G z_all, PySem.W.mg_none_of X G z_any, PySem.W.mg_none_of X G z_enumerate, PySem.W.mg_none_of X G z_zip⟩
  have T : Txt K mg C CG cS cN := ⟨bl,
    wc,
    gc,
    ⟨t1, PySem.W.mg_of X G k_n1⟩,
    ⟨t2, PySem.W.mg_of X G k_n2⟩,
    ⟨t3, PySem.W.mg_of X G k_n3⟩,
    ⟨t4, PySem.W.mg_of X G k_n4⟩,
    ⟨t5, PySem.W.mg_of X G k_n5⟩,
    ⟨t6, PySem.W.mg_of X G k_n6⟩,
    d_is_integer,
    d_is_within,
    d_is_pair,
    d_is_listed,
    d_check_from,
    d_are_roads,
    d_are_counts,
    methIn_of (st := s_Web_keep) ma0 mi0 ml0 mc0 mq0,
    initIn_of (st := s_Web_init) (PySem.W.mg_of X G aC) mkC kcC ma1 mi1 ml1 mc1 mq1,
    d_is_road,
    d_is_way,
    d_is_told,
    d_could_be,
    d_is_card,
    d_are_right_cards,
    d_told_roads,
    d_check_some_cards,
    d_l_draw,
    d_l_next,
    d_l_ready,
    d_l_waits,
    d_l_first,
    d_l_padded,
    d_l_picked,
    d_l_note,
    d_l_play,
    initIn_of (st := s_Guided_init) (PySem.W.mg_of X G aCG) mkCG kcCG ma2 mi2 ml2 mc2 mq2,
    methIn_of (st := s_Guided_ready) ma3 mi3 ml3 mc3 mq3,
    methIn_of (st := s_Guided_waits_at) ma4 mi4 ml4 mc4 mq4,
    methIn_of (st := s_Guided_chosen) ma5 mi5 ml5 mc5 mq5,
    methIn_of (st := s_Guided_go) ma6 mi6 ml6 mc6 mq6,
    methIn_of (st := s_Guided_hours_so_far) ma7 mi7 ml7 mc7 mq7,
    d_stranger_hours,
    d_l_pool,
    d_l_lot,
    d_l_letter,
    d_l_web,
    d_l_web_of,
    d_l_led,
    d_l_cards,
    lamIn_of (st := s_l_stranger) X G laS llS lcS lqS,
    lamIn_of (st := s_l_noted) X G laN llN lcN lqN⟩
  exact law_at X hfa dl T hne tS tN lnS lnN lhS lhN
end Z
open PySem PySem.W PyProof.Rows in
set_option maxRecDepth 100000 in
set_option maxHeartbeats 0 in
theorem PySem.Challenge.cw_hourcards_k60_whole_strangers_led_holds : PySem.Challenge.rw_hourcards_k60_whole_strangers_led.Holds := by
  w_on; o_law; k_head; (case hw => w_witness2)
  k_fill
  refine LamX.walk_ofTs (l := PySem.Challenge.rw_hourcards_k60_whole_strangers_led) (n := 63) (k := 9) (x := "_law_script") (CX := fun _ => L2.CX0) rfl (by decide) rfl ⟨rfl, by decide, by decide⟩ (fun w h Y => PySem.W.km_in_of Y) ?F fun _ _ _ _ _ z => z
  case F =>
    intro w mg fa h Y KX G hmg
    have hT := PySem.W.km_tabs_of Y
    refine' Z.fin (PS := 358) (PN := 377) KX G hmg ?dl ?d_is_integer ?d_is_within ?d_is_pair ?d_is_listed ?d_check_from ?d_are_roads ?d_are_counts ?d_is_road ?d_is_way ?d_is_told ?d_could_be ?d_is_card ?d_are_right_cards ?d_told_roads ?d_check_some_cards ?d_l_draw ?d_l_next ?d_l_ready ?d_l_waits ?d_l_first ?d_l_padded ?d_l_picked ?d_l_note ?d_l_play ?d_stranger_hours ?d_l_pool ?d_l_lot ?d_l_letter ?d_l_web ?d_l_web_of ?d_l_led ?d_l_cards (by decide) (hT 358 (by first | exact List.mem_cons_self .. | exact List.mem_cons_of_mem _ (List.mem_cons_self ..))) (hT 377 (by first | exact List.mem_cons_self .. | exact List.mem_cons_of_mem _ (List.mem_cons_self ..))) ?aC ?pgC ?hdC ?poC ?saC ?mkC ?kcC ?naC0 ?naC1 ?naC2 ?naC3 ?naC4 ?naC5 ?aCG ?pgCG ?hdCG ?poCG ?saCG ?mkCG ?kcCG ?naCG0 ?naCG1 ?naCG2 ?naCG3 ?naCG4 ?naCG5 ?ma0 ?mi0 ?ml0 ?mc0 ?mq0 ?ma1 ?mi1 ?ml1 ?mc1 ?mq1 ?ma2 ?mi2 ?ml2 ?mc2 ?mq2 ?ma3 ?mi3 ?ml3 ?mc3 ?mq3 ?ma4 ?mi4 ?ml4 ?mc4 ?mq4 ?ma5 ?mi5 ?ml5 ?mc5 ?mq5 ?ma6 ?mi6 ?ml6 ?mc6 ?mq6 ?ma7 ?mi7 ?ml7 ?mc7 ?mq7 ?laS ?llS ?lcS ?lqS ?lhS ?lnS ?laN ?llN ?lcN ?lqN ?lhN ?lnN ?z_len ?z_range ?z_sorted ?z_tuple ?z_list ?z_int ?z_bool ?z_dict ?z_set ?z_max ?z_sum ?z_abs ?z_isinstance ?z_all ?z_any ?z_enumerate ?z_zip ?k_n1 ?k_n2 ?k_n3 ?k_n4 ?k_n5 ?k_n6
    (case dl => refine' Z.defIn_of KX G ?ya ?yl ?yc ?yq; (case ya => k_is); (case yl => k_is); (case yc => k_is); (case yq => k_is))
    (case d_is_integer => refine' Z.defIn_of KX G ?ya ?yl ?yc ?yq; (case ya => k_is); (case yl => k_is); (case yc => k_is); (case yq => k_is))
    (case d_is_within => refine' Z.defIn_of KX G ?ya ?yl ?yc ?yq; (case ya => k_is); (case yl => k_is); (case yc => k_is); (case yq => k_is))
    (case d_is_pair => refine' Z.defIn_of KX G ?ya ?yl ?yc ?yq; (case ya => k_is); (case yl => k_is); (case yc => k_is); (case yq => k_is))
    (case d_is_listed => refine' Z.defIn_of KX G ?ya ?yl ?yc ?yq; (case ya => k_is); (case yl => k_is); (case yc => k_is); (case yq => k_is))
    (case d_check_from => refine' Z.defIn_of KX G ?ya ?yl ?yc ?yq; (case ya => k_is); (case yl => k_is); (case yc => k_is); (case yq => k_is))
    (case d_are_roads => refine' Z.defIn_of KX G ?ya ?yl ?yc ?yq; (case ya => k_is); (case yl => k_is); (case yc => k_is); (case yq => k_is))
    (case d_are_counts => refine' Z.defIn_of KX G ?ya ?yl ?yc ?yq; (case ya => k_is); (case yl => k_is); (case yc => k_is); (case yq => k_is))
    (case d_is_road => refine' Z.defIn_of KX G ?ya ?yl ?yc ?yq; (case ya => k_is); (case yl => k_is); (case yc => k_is); (case yq => k_is))
    (case d_is_way => refine' Z.defIn_of KX G ?ya ?yl ?yc ?yq; (case ya => k_is); (case yl => k_is); (case yc => k_is); (case yq => k_is))
    (case d_is_told => refine' Z.defIn_of KX G ?ya ?yl ?yc ?yq; (case ya => k_is); (case yl => k_is); (case yc => k_is); (case yq => k_is))
    (case d_could_be => refine' Z.defIn_of KX G ?ya ?yl ?yc ?yq; (case ya => k_is); (case yl => k_is); (case yc => k_is); (case yq => k_is))
    (case d_is_card => refine' Z.defIn_of KX G ?ya ?yl ?yc ?yq; (case ya => k_is); (case yl => k_is); (case yc => k_is); (case yq => k_is))
    (case d_are_right_cards => refine' Z.defIn_of KX G ?ya ?yl ?yc ?yq; (case ya => k_is); (case yl => k_is); (case yc => k_is); (case yq => k_is))
    (case d_told_roads => refine' Z.defIn_of KX G ?ya ?yl ?yc ?yq; (case ya => k_is); (case yl => k_is); (case yc => k_is); (case yq => k_is))
    (case d_check_some_cards => refine' Z.defIn_of KX G ?ya ?yl ?yc ?yq; (case ya => k_is); (case yl => k_is); (case yc => k_is); (case yq => k_is))
    (case d_l_draw => refine' Z.defIn_of KX G ?ya ?yl ?yc ?yq; (case ya => k_is); (case yl => k_is); (case yc => k_is); (case yq => k_is))
    (case d_l_next => refine' Z.defIn_of KX G ?ya ?yl ?yc ?yq; (case ya => k_is); (case yl => k_is); (case yc => k_is); (case yq => k_is))
    (case d_l_ready => refine' Z.defIn_of KX G ?ya ?yl ?yc ?yq; (case ya => k_is); (case yl => k_is); (case yc => k_is); (case yq => k_is))
    (case d_l_waits => refine' Z.defIn_of KX G ?ya ?yl ?yc ?yq; (case ya => k_is); (case yl => k_is); (case yc => k_is); (case yq => k_is))
    (case d_l_first => refine' Z.defIn_of KX G ?ya ?yl ?yc ?yq; (case ya => k_is); (case yl => k_is); (case yc => k_is); (case yq => k_is))
    (case d_l_padded => refine' Z.defIn_of KX G ?ya ?yl ?yc ?yq; (case ya => k_is); (case yl => k_is); (case yc => k_is); (case yq => k_is))
    (case d_l_picked => refine' Z.defIn_of KX G ?ya ?yl ?yc ?yq; (case ya => k_is); (case yl => k_is); (case yc => k_is); (case yq => k_is))
    (case d_l_note => refine' Z.defIn_of KX G ?ya ?yl ?yc ?yq; (case ya => k_is); (case yl => k_is); (case yc => k_is); (case yq => k_is))
    (case d_l_play => refine' Z.defIn_of KX G ?ya ?yl ?yc ?yq; (case ya => k_is); (case yl => k_is); (case yc => k_is); (case yq => k_is))
    (case d_stranger_hours => refine' Z.defIn_of KX G ?ya ?yl ?yc ?yq; (case ya => k_is); (case yl => k_is); (case yc => k_is); (case yq => k_is))
    (case d_l_pool => refine' Z.defIn_of KX G ?ya ?yl ?yc ?yq; (case ya => k_is); (case yl => k_is); (case yc => k_is); (case yq => k_is))
    (case d_l_lot => refine' Z.defIn_of KX G ?ya ?yl ?yc ?yq; (case ya => k_is); (case yl => k_is); (case yc => k_is); (case yq => k_is))
    (case d_l_letter => refine' Z.defIn_of KX G ?ya ?yl ?yc ?yq; (case ya => k_is); (case yl => k_is); (case yc => k_is); (case yq => k_is))
    (case d_l_web => refine' Z.defIn_of KX G ?ya ?yl ?yc ?yq; (case ya => k_is); (case yl => k_is); (case yc => k_is); (case yq => k_is))
    (case d_l_web_of => refine' Z.defIn_of KX G ?ya ?yl ?yc ?yq; (case ya => k_is); (case yl => k_is); (case yc => k_is); (case yq => k_is))
    (case d_l_led => refine' Z.defIn_of KX G ?ya ?yl ?yc ?yq; (case ya => k_is); (case yl => k_is); (case yc => k_is); (case yq => k_is))
    (case d_l_cards => refine' Z.defIn_of KX G ?ya ?yl ?yc ?yq; (case ya => k_is); (case yl => k_is); (case yc => k_is); (case yq => k_is))
    (case aC => k_is)
    (case pgC => k_is)
    (case hdC => k_is)
    (case poC => k_is)
    (case saC => k_is)
    (case mkC => k_is)
    (case kcC => k_is)
    (case naC0 => k_is)
    (case naC1 => k_is)
    (case naC2 => k_is)
    (case naC3 => k_is)
    (case naC4 => k_is)
    (case naC5 => k_is)
    (case aCG => k_is)
    (case pgCG => k_is)
    (case hdCG => k_is)
    (case poCG => k_is)
    (case saCG => k_is)
    (case mkCG => k_is)
    (case kcCG => k_is)
    (case naCG0 => k_is)
    (case naCG1 => k_is)
    (case naCG2 => k_is)
    (case naCG3 => k_is)
    (case naCG4 => k_is)
    (case naCG5 => k_is)
    (case ma0 => k_is)
    (case mi0 => k_is)
    (case ml0 => k_is)
    (case mc0 => k_is)
    (case mq0 => k_is)
    (case ma1 => k_is)
    (case mi1 => k_is)
    (case ml1 => k_is)
    (case mc1 => k_is)
    (case mq1 => k_is)
    (case ma2 => k_is)
    (case mi2 => k_is)
    (case ml2 => k_is)
    (case mc2 => k_is)
    (case mq2 => k_is)
    (case ma3 => k_is)
    (case mi3 => k_is)
    (case ml3 => k_is)
    (case mc3 => k_is)
    (case mq3 => k_is)
    (case ma4 => k_is)
    (case mi4 => k_is)
    (case ml4 => k_is)
    (case mc4 => k_is)
    (case mq4 => k_is)
    (case ma5 => k_is)
    (case mi5 => k_is)
    (case ml5 => k_is)
    (case mc5 => k_is)
    (case mq5 => k_is)
    (case ma6 => k_is)
    (case mi6 => k_is)
    (case ml6 => k_is)
    (case mc6 => k_is)
    (case mq6 => k_is)
    (case ma7 => k_is)
    (case mi7 => k_is)
    (case ml7 => k_is)
    (case mc7 => k_is)
    (case mq7 => k_is)
    (case laS => k_is)
    (case llS => k_is)
    (case lcS => k_is)
    (case lqS => k_is)
    (case lhS => kernel_rfl)
    (case lnS => kernel_rfl)
    (case laN => k_is)
    (case llN => k_is)
    (case lcN => k_is)
    (case lqN => k_is)
    (case lhN => kernel_rfl)
    (case lnN => kernel_rfl)
    (case z_len => k_is)
    (case z_range => k_is)
    (case z_sorted => k_is)
    (case z_tuple => k_is)
    (case z_list => k_is)
    (case z_int => k_is)
    (case z_bool => k_is)
    (case z_dict => k_is)
    (case z_set => k_is)
    (case z_max => k_is)
    (case z_sum => k_is)
    (case z_abs => k_is)
    (case z_isinstance => k_is)
    (case z_all => k_is)
    (case z_any => k_is)
    (case z_enumerate => k_is)
    (case z_zip => k_is)
    (case k_n1 => k_is)
    (case k_n2 => k_is)
    (case k_n3 => k_is)
    (case k_n4 => k_is)
    (case k_n5 => k_is)
    (case k_n6 => k_is)
#print axioms PySem.Challenge.cw_hourcards_k60_whole_strangers_led_holds
