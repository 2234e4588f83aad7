import PyProof.Rows.All
import Wide.All
import OpenK.AllK
import Wide.FinOn
import HandS.ForMost
import HandS.Deep
import HandS.TupAny
import HandS.TupMul
import HandS.Conv
import HandS.HeadHook1
import HandS.IsInst
import KE.LtData
import KE.DataCmp
import KE.DataEq
import KE.DataFind
import KE.DataIsa
import KE.DataMinMax
import KE.SortData
import HandS.Zip
import HandS.WordsExc
import HandS.Flow
import HandS.SetFor
import HandS.Strs
import HandS.ExcIs
import HandS.TryMany
import KE.KStateDown
import Lean
import HandS.Ends
import HandS.More
import HandS.Words
import HandS.Defaults
import HandS.Head0
import HandS.Head1
import HandS.Head2
import HandS.HeadEnd
import HandS.HeadHook2
import HandS.HeadHook4
import HandS.HeadNt
import KE.GoesEnum
import HandS.TupSets
import HandS.Style
import KE.KExcIs
import HandS.ExcField
import HandS.ExcInit
import HandS.ExcOwn
import HandS.FStr
import HandS.Text
import HandS.StrMore
import HandS.ClsMeth
import KE.KCallOwn
import HandS.RaiseMore
import PySem.Challenge.RW_markedpaths_k15_failed_calls
set_option Elab.async false
set_option linter.all false
set_option maxRecDepth 90000
set_option maxHeartbeats 1900000
namespace DL
open PySem PySem.Spec PyProof.Rows L2

/-! ### tuples that are known to have no dict of their own -/
abbrev FT (o : Obj) (xs : List V) : HO := .frz o (.tup xs)
def TupG (H : Hp) (a : Addr) (xs : List V) : Prop := ∃ o : Obj, o.dict = none ∧ H a = some (FT o xs)
theorem TupG.sq {K : PySem.W.Frag} {H : Hp} {a : Addr} {xs : List V} (h : TupG H a xs) : SqT K H a xs := let ⟨o, _, e⟩ := h; .inl (.inr ⟨o, e⟩)
section
variable {X : Cx} {pins : List (Addr × Obj)} {σ : L2.St} {H : Hp} {s : Shared}
/-- a pushed tuple -/
theorem lay_tup {xs : List V} {us : List Value} (I : Inv X pins σ H s) (r : Vals xs us) (hz : xs.length ≤ sizeLine) (tk : Nat) :
    ∃ o : Obj, o.dict = none ∧ Inv X pins σ (upd H s.heap.objs.size (FT o xs)) { s with heap := s.heap.push { cls := .type "tuple", data := .seq us.toArray }, toks := tk } ∧ H s.heap.objs.size = none := by
  refine ⟨{ cls := .type "tuple", data := .seq us.toArray }, rfl, ?_, I.hok.fresh (Nat.le_refl _)⟩
  exact I.laid (fun b u e => Heap.get?_push_of_some _ e) (Nat.le_refl _) ⟨Heap.get?_push_size _ rfl, hz, us, r, ⟨_, Heap.get?_push_size _ rfl, rfl, _, rfl⟩⟩
end
section
variable {X : Cx}
def tTupG (t : TA) : TE := fun σ H Q => t σ H fun vs H1 => vs.length ≤ sizeLine ∧ ∀ (p : Addr) (o : Obj), o.dict = none → H1 p = none → Q (.ref p) (upd H1 p (FT o vs))
theorem pe_tupG {es : List Expr} {t : TA} {pos : Pos} {x1} (h : PA X es t) : PE X (.Tuple es x1 pos) (tTupG t) := ⟨fun pins s σ H Q I hq => by
  refine wpAny_Tuple_spliced (thn (h.run pos pins s σ H _ I hq) fun us s1 ⟨vs, H1, I1, rv, hl, k⟩ => ?_)
  obtain ⟨o, ho, I2, fr⟩ := lay_tup I1 rv hl s1.toks
  exact ⟨Nat.le_trans (Nat.le_of_eq rv.length.symm) hl, .ref s1.heap.objs.size, _, I2, rfl, k _ o ho fr⟩⟩
/-- t + u -/
def rCatG (K : PySem.W.Frag) : R2 := fun x y H Q => ∃ a b xs ys, x = .ref a ∧ y = .ref b ∧ SqT K H a xs ∧ SqT K H b ys ∧ xs.length + ys.length ≤ sizeLine ∧
  (xs = [] → Q (.ref b) H) ∧ (xs ≠ [] → ys = [] → Q (.ref a) H) ∧ (xs ≠ [] → ys ≠ [] → ∀ (p : Addr) (o : Obj), o.dict = none → H p = none → Q (.ref p) (upd H p (FT o (xs ++ ys))))
theorem op_catG : OpR X (binaryOp .Add) (rCatG X.K) := fun pins s σ H x y v u Q I rx ry h => by
  obtain ⟨a, b, xs, ys, ex, ey, ta, tb, lz, k0, k1, k2⟩ := h
  by_cases e1 : xs = []
  · exact op_catA pins s σ H x y v u Q I rx ry ⟨a, b, xs, ys, ex, ey, ta, tb, lz, k0, k1, fun n1 => absurd e1 n1⟩
  · by_cases e2 : ys = []
    · exact op_catA pins s σ H x y v u Q I rx ry ⟨a, b, xs, ys, ex, ey, ta, tb, lz, k0, k1, fun _ n2 => absurd e2 n2⟩
    · subst ex
      subst ey
      cases rx
      cases ry
      obtain ⟨us, ru, pu, _⟩ := I.tuple ta
      obtain ⟨ws, rw', pw, _⟩ := I.tuple tb
      refine HT.cat_tup pu pw (fun z => e1 (ru.nil_iff.mp z)) (fun z => absurd (rw'.nil_iff.mp z) e2) (fun _ => ?_) (by rw [← ru.length, ← rw'.length]; exact lz)
      obtain ⟨o, ho, I2, fr⟩ := lay_tup (s := s) I (ru.append rw') (by rw [List.length_append]; exact lz) s.toks
      exact ⟨.ref s.heap.objs.size, _, I2, rfl, k2 e1 e2 _ o ho fr⟩
/-- t[lo:hi] -/
def rSlG (K : PySem.W.Frag) : V → Option Int → Option Int → Hp → VK → Prop := fun x lo hi H Q => ∃ a xs, x = .ref a ∧ SqT K H a xs ∧
  (HT.sIx xs.length 0 lo = 0 ∧ HT.sIx xs.length xs.length hi = xs.length → Q (.ref a) H) ∧ ∀ (p : Addr) (o : Obj), o.dict = none → H p = none → Q (.ref p) (upd H p (FT o (cutV xs lo hi)))
theorem sl_tupG : SlR X (rSlG X.K) := fun pins s σ H x v vl vu lo hi sl Q I rx hs pl pu h => by
  obtain ⟨a, xs, ex, ta, k1, k2⟩ := h
  by_cases whole : HT.sIx xs.length 0 lo = 0 ∧ HT.sIx xs.length xs.length hi = xs.length
  · exact sl_tupA pins s σ H x v vl vu lo hi sl Q I rx hs pl pu ⟨a, xs, ex, ta, k1, fun n => absurd whole n⟩
  · subst ex
    cases rx
    obtain ⟨us, ru, pt, lz⟩ := I.tuple ta
    have es : us.toArray.size = xs.length := List.size_toArray.trans ru.length.symm
    refine ⟨"tuple", _, PyProof.Rows.slot_tuple_getitem.lookup, pt.typeIs, HT.getItem_tuple_cut pt hs pl pu (by rw [es]; exact whole) ?_ (by rw [es]; exact lz)⟩
    rw [es]
    obtain ⟨o, ho, I2, fr⟩ := lay_tup (s := s) I ((ru.drop (HT.sIx xs.length 0 lo)).take (HT.sIx xs.length xs.length hi - HT.sIx xs.length 0 lo)) (Nat.le_trans (cutV_length xs lo hi) lz) s.toks
    exact ⟨.ref s.heap.objs.size, _, I2, rfl, k2 _ o ho fr⟩
/-- tuple(x) -/
theorem call_tupleG : CallR X (.type "tuple") (fun xs H Q => ∃ p ys, xs = [.ref p] ∧ ((SqL X.K H p ys ∧ ∀ (l : Addr) (o : Obj), o.dict = none → H l = none → Q (.ref l) (upd H l (FT o ys))) ∨ (SqT X.K H p ys ∧ Q (.ref p) H))) := fun pins s σ H xs us Q I r h => by
  obtain ⟨p, ys, exs, h⟩ := h
  rcases h with ⟨ql, k⟩ | ⟨qt, k⟩
  · subst exs
    obtain ⟨u, eu, ru⟩ := vals1 r
    subst eu
    cases ru
    obtain ⟨ws, rs, pl, lz⟩ := I.list ql
    refine call_tuple_list pl.isList (fun h' kp => ?_) (Nat.le_trans (Nat.le_of_eq (List.size_toArray.trans rs.length.symm)) lz)
    obtain ⟨o, ho, I2, fr⟩ := lay_tup (s := { s with heap := h' }) (I.kept (t' := s.toks) kp) rs lz s.toks
    exact ⟨.ref h'.objs.size, _, I2, rfl, k _ o ho fr⟩
  · exact call_tuple_of pins s σ H xs us Q I r ⟨p, ys, exs, .inr ⟨qt, k⟩⟩
/-- tuple(range(..)) -/
def tTupRgG (te : L2.St → Hp → (Int → Int → Hp → Prop) → Prop) : TE := fun σ H Q => te σ H fun a b H1 => RgOk a b ∧ ∀ (q : Addr) (o : Obj), o.dict = none → H1 q = none → Q (.ref q) (upd H1 q (FT o (rgV a b)))
theorem pe_tupRgG {e : Expr} {te : L2.St → Hp → (Int → Int → Hp → Prop) → Prop} {p pos : Pos} (hc : X.calm = true) (hg : Gl X "tuple") (hm : X.mg "tuple" = none) (he : PRg X e te) (na : starEach [e] X.env = (false, eval e X.env) :: starEach [] X.env := by rfl) : PE X (.Call (.Name "tuple" p) [e] [] pos) (tTupRgG te) := ⟨fun pins s σ H Q I h => by
  refine Call_ (ld_blt I hg hm boot_tuple (PyProof.Rows.callWith_type1 (args_cons (thn (he pins s σ H _ I h) fun x s1 ⟨r, a, b, t, u, v, H1, ex, isr, I1, ok, k⟩ => args_nil ?_) na) na))
  subst ex
  obtain ⟨c1, c2, c3, c4, c5⟩ := ok
  refine call_tuple_range (n := (b - a).toNat) (I1.ok.hd hc) isr (small_one c1 c2 c3 c4) (rangeSize_nat a b) c5 fun h' tk acc kp its => ?_
  have lz : (rgV a b).length ≤ sizeLine := by rw [rgV_length, sizeLine_eq]; omega
  obtain ⟨o, ho, I2, fr⟩ := lay_tup (s := { s1 with heap := h', toks := tk }) (I1.kept kp) (vals_rg its) lz tk
  rw [Array.toArray_toList] at I2
  exact ⟨.ref h'.objs.size, _, I2, rfl, k _ o ho fr⟩⟩
/-- t * n -/
def rRepG (K : PySem.W.Frag) : R2 := fun x y H Q => ∃ l k xs, x = .ref l ∧ y = .int k ∧ SqT K H l xs ∧ xs ≠ [] ∧ 2 ≤ k ∧ k ≤ 1000 ∧ xs.length ≤ 1000 ∧ ∀ (p : Addr) (o : Obj), o.dict = none → H p = none → Q (.ref p) (upd H p (FT o (List.replicate k.toNat xs).flatten))
theorem op_repG : OpR X (binaryOp .Mult) (rRepG X.K) := fun pins s σ H x y v u Q I rx ry h => by
  obtain ⟨l, k, xs, ex, ey, tt, ne, k2, k1, lz, kk⟩ := h
  subst ex
  subst ey
  cases rx
  obtain ⟨tk, etk⟩ := ry
  subst etk
  obtain ⟨us, ru, ⟨⟨cl, dd, dt, sl⟩, og, oc, n, od⟩, _⟩ := I.tuple tt
  simp only at oc od
  subst oc
  subst od
  have el : us.length = xs.length := ru.length.symm
  have es : us.toArray.size = xs.length := List.size_toArray.trans el
  have ep : us.toArray.isEmpty = false := by
    cases us with
    | nil => exact absurd (List.eq_nil_of_length_eq_zero el.symm) ne
    | cons _ _ => rfl
  have big : k.toNat * xs.length ≤ 1000 * 1000 := Nat.mul_le_mul (by omega) lz
  have bigI : ((us.toArray.size : Nat) : Int) * k ≤ 1000000 := by
    rw [es]
    have := Int.mul_le_mul_of_nonneg_right (show ((xs.length : Nat) : Int) ≤ 1000 by omega) (show 0 ≤ k by omega)
    omega
  have fl : (List.replicate k.toNat us).flatten.length ≤ sizeLine := by
    rw [PyProof.Rows.lm_len_rep_flat, el, sizeLine_eq]
    omega
  have w0 : (decide (k < -(2 ^ 63)) || decide (k ≥ 2 ^ 63)) = false := by simp; omega
  have w1 : (us.toArray.isEmpty || k == 1) = false := by rw [ep, Bool.false_or]; simp; omega
  have w2 : (decide (k ≤ 0) || us.toArray.isEmpty) = false := by rw [ep, Bool.or_false]; simp; omega
  have w4 : Builtin.Tuple.tupleTooMany (((us.toArray.size : Nat) : Int) * k) = false := decide_eq_false (by rw [sizeLine_eq]; omega)
  refine wpAny_binaryOp_repeat_ref (T := "tuple") (U := "int") (by decide) ⟨_, og, rfl⟩ (fun s' => typeIs_int s' k tk) noFill_tuple_mul F.fills_int_mul F.slot_int_rmul repeat_tuple F.slot_int_index.lookup
    (call_meets F.slot_int_rmul (typeIs_int s k tk) F.entry_int_rmul (F.args_int_rmul_2 _ _) (int_rmul_tuple k tk l us.toArray n dd sl)
      ⟨og, rfl, ⟨_, og, rfl⟩, call_meets F.slot_tuple_mul ⟨_, og, rfl⟩ F.entry_tuple_mul (F.args_tuple_mul_2 _ _) (tuple_mulW l us.toArray n dd sl k tk w0 w1 w2 (by omega) w4 (by rw [size_rep, List.size_toArray]; exact fl)) ⟨og, ?_⟩⟩)
  rw [size_rep]
  obtain ⟨o, ho, I2, fr⟩ := lay_tup (s := s) I (ru.rep k.toNat) (by rw [PyProof.Rows.lm_len_rep_flat, sizeLine_eq]; omega) s.toks
  exact ⟨.ref s.heap.objs.size, _, I2, rfl, kk _ o ho fr⟩
end
end DL

namespace DL
open PySem L2

/-! ### results -/
inductive Res (α : Type) where
  | ok (a : α)
  | err (x : Str)
  | bad

namespace Res
def bind {α β : Type} : Res α → (α → Res β) → Res β
  | .ok a, f => f a
  | .err x, _ => .err x
  | .bad, _ => .bad
def map {α β : Type} (f : α → β) : Res α → Res β
  | .ok a => .ok (f a)
  | .err x => .err x
  | .bad => .bad
def ofOpt {α : Type} : Option α → Res α
  | some a => .ok a
  | none => .bad
end Res
instance : Monad Res where
  pure := .ok
  bind := Res.bind

/-! ### heaps that grow -/
def Ex (H H' : Hp) : Prop := ∀ a o, H a = some o → H' a = some o
theorem Ex.refl (H : Hp) : Ex H H := fun _ _ h => h
theorem Ex.trans {H H1 H2 : Hp} (a : Ex H H1) (b : Ex H1 H2) : Ex H H2 := fun x o h => b x o (a x o h)
theorem Ex.new {H : Hp} {p : Addr} {o : HO} (h : H p = none) : Ex H (upd H p o) := fun a u e => by
  rw [upd_ne (ne_of_none e h)]
  exact e
theorem Ex.none {H H' : Hp} {p : Addr} (e : Ex H H') (h : H' p = none) : H p = none := by
  cases q : H p with
  | none => rfl
  | some o =>
    rw [e p o q] at h
    cases h

/-- from the frozen part B0 and the heap B to H0 and H: what stood stands, the frozen part has grown by new objects alone -/
structure Nw (B0 B H0 H : Hp) : Prop where
  a : Ex B0 H0
  b : Ex H0 H
  c : Ex B H
  d : ∀ p o, H0 p = some o → B0 p = some o ∨ B p = none
theorem Nw.refl {B0 B : Hp} (e : Ex B0 B) : Nw B0 B B0 B := ⟨Ex.refl _, e, Ex.refl _, fun _ _ h => .inl h⟩
theorem Nw.trans {B0 B H0 H H1 H2 : Hp} (x : Nw B0 B H0 H) (y : Nw H0 H H1 H2) : Nw B0 B H1 H2 := by
  refine ⟨x.a.trans y.a, y.b, x.c.trans y.c, fun p o h => ?_⟩
  rcases y.d p o h with q | q
  · exact x.d p o q
  · exact .inr (x.c.none q)
/-- a new object, frozen at once -/
theorem Nw.alloc {B0 B H0 H : Hp} (x : Nw B0 B H0 H) {p : Addr} {o : HO} (h : H p = none) : Nw B0 B (upd H0 p o) (upd H p o) := by
  have h0 : H0 p = none := x.b.none h
  refine ⟨x.a.trans (Ex.new h0), fun a u e => ?_, x.c.trans (Ex.new h), fun q u e => ?_⟩
  · by_cases z : a = p
    · subst z
      rw [upd_same] at e ⊢
      exact e
    · rw [upd_ne z] at e ⊢
      exact x.b a u e
  · by_cases z : q = p
    · subst z
      exact .inr (x.c.none h)
    · rw [upd_ne z] at e
      exact x.d q u e
/-- an object outside of the frozen part, new since B, is written -/
theorem Nw.write {B0 B H0 H : Hp} (x : Nw B0 B H0 H) {p : Addr} {o : HO} (h0 : H0 p = none) (hB : B p = none) : Nw B0 B H0 (upd H p o) := by
  refine ⟨x.a, fun a u e => ?_, fun a u e => ?_, x.d⟩
  · rw [upd_ne (ne_of_none e h0)]
    exact x.b a u e
  · rw [upd_ne (ne_of_none e hB)]
    exact x.c a u e
/-- an object outside of the frozen part is frozen -/
theorem Nw.freeze {B0 B H0 H : Hp} (x : Nw B0 B H0 H) {p : Addr} {o : HO} (h0 : H0 p = none) (hB : B p = none) (hp : H p = some o) : Nw B0 B (upd H0 p o) H := by
  refine ⟨x.a.trans (Ex.new h0), fun a u e => ?_, x.c, fun q u e => ?_⟩
  · by_cases z : a = p
    · subst z
      rw [upd_same] at e
      rw [hp]
      exact e
    · rw [upd_ne z] at e
      exact x.b a u e
  · by_cases z : q = p
    · subst z
      exact .inr hB
    · rw [upd_ne z] at e
      exact x.d q u e
/-- a new object that is not frozen -/
theorem Nw.fresh {B0 B H0 H : Hp} (x : Nw B0 B H0 H) {p : Addr} {o : HO} (h : H p = none) : Nw B0 B H0 (upd H p o) := x.write (x.b.none h) (x.c.none h)

/-! ### values and data -/
theorem TupG.mono {H H' : Hp} {a : Addr} {xs : List V} (e : Ex H H') (h : TupG H a xs) : TupG H' a xs := let ⟨o, d, q⟩ := h; ⟨o, d, e _ _ q⟩
/-- a pair that is only taken apart (an item of zip, of enumerate) -/
def pr2 (x y : PyData) : PyData := .dict [(.tuple [x, y], .none)]
/-- the script's list as data: a thing of its own kind -/
def scrB (kvs : List (PyData × PyData)) : Bool := kvs.all fun p => match p.1 with
  | .int _ => true
  | _ => false
theorem scrB_map (ns : List Int) : scrB (ns.map fun n => (.int n, .none)) = true := by
  unfold scrB
  rw [List.all_map]
  exact List.all_eq_true.mpr fun _ _ => rfl
def scrD (ns : List Int) : PyData := .dict (ns.map fun n => (.int n, .none))
/-- an object that is not written any more: its class's name, its fields -/
def obD (x : Str) (fd : List (Str × PyData)) : PyData := .dict [(.str x, .dict (fd.map fun p => (.str p.1, p.2)))]
/-- the name of an exception; of a ParseError with its line behind it: 0 for None, n + 1 for n -/
def peN : Array Nat := (Str.ofString "ParseError").cps
def lineOf (x : Str) : Option Nat := if x.cps.size = 11 ∧ x.cps.toList.take 10 = peN.toList then x.cps[10]? else none
def peX (l : Nat) : Str := ⟨peN.push l⟩
def lineV : Nat → V
  | 0 => .non
  | n + 1 => .int n
def lineD : Nat → PyData
  | 0 => .none
  | n + 1 => .int n
/-- an exception that is handled: its place, its dict's place, its name -/
def exD (a dd : Addr) (x : Str) : PyData := .dict [(.bool true, .list [.int a, .int dd, .str x])]
mutual
inductive Dq (K : PySem.W.Frag) (H : Hp) : V → PyData → Prop
  | non : Dq K H .non .none
  | bl (b : Bool) : Dq K H (.bl b) (.bool b)
  | int (i : Int) : Dq K H (.int i) (.int i)
  | str (x : Str) : x.length ≤ sizeLine → Dq K H (.str x) (.str x)
  | lst {a : Addr} {xs : List V} {ds : List PyData} : H a = some (.lst xs) → xs.length ≤ sizeLine → DqAll K H xs ds → Dq K H (.ref a) (.list ds)
  | tup {a : Addr} {xs : List V} {ds : List PyData} : TupG H a xs → xs.length ≤ sizeLine → DqAll K H xs ds → Dq K H (.ref a) (.tuple ds)
  | scr {a : Addr} (ns : List Int) : SqL K H a (ns.map V.int) → Dq K H (.ref a) (scrD ns)
  | pair {a : Addr} {x y : V} {dx dy : PyData} : H a = some (.tup [x, y]) → Dq K H x dx → Dq K H y dy → Dq K H (.ref a) (pr2 dx dy)
  | obj {a dx : Addr} {fs : List (Str × V)} (x : Str) (fd : List (Str × PyData)) : H a = some (.ins (He.ga K x) dx fs) → fs.map (·.1) = fd.map (·.1) → DqAll K H (fs.map (·.2)) (fd.map (·.2)) → Dq K H (.ref a) (obD x fd)
  | exc (a dd : Addr) (x : Str) : (∀ l, lineOf x = some l → H dd = some (.xd [("line", lineV l)])) → Dq K H (.ref a) (exD a dd x)
inductive DqAll (K : PySem.W.Frag) (H : Hp) : List V → List PyData → Prop
  | nil : DqAll K H [] []
  | cons {v : V} {vs : List V} {d : PyData} {ds : List PyData} : Dq K H v d → DqAll K H vs ds → DqAll K H (v :: vs) (d :: ds)
end
theorem ex_rd {H H' : Hp} {a : Addr} {u : HO} (e : Ex H H') (h : Rd H a u) : Rd H' a u := by
  rcases h with h | ⟨o, h⟩
  · exact .inl (e a _ h)
  · exact .inr ⟨o, e a _ h⟩
theorem ex_l {K : PySem.W.Frag} {H H' : Hp} {a : Addr} {xs : List V} (e : Ex H H') (h : SqL K H a xs) : SqL K H' a xs := by
  rcases h with h | h
  · exact .inl (ex_rd e h)
  · exact .inr h
/-- the two items of a pair -/
def two : PyData → Option (PyData × PyData)
  | .tuple [x, y] => some (x, y)
  | .dict [(.tuple [x, y], .none)] => some (x, y)
  | _ => none
theorem two_at {K : PySem.W.Frag} {H : Hp} {v : V} {d : PyData} {p : PyData × PyData} (h : Dq K H v d) (e : two d = some p) : ∃ a x y, v = .ref a ∧ (∀ H', Ex H H' → SqT K H' a [x, y]) ∧ Dq K H x p.1 ∧ Dq K H y p.2 := by
  cases h with
  | tup hp hl hd =>
    cases hd with
    | nil => cases e
    | cons r1 hd =>
      cases hd with
      | nil => cases e
      | cons r2 hd =>
        cases hd with
        | cons _ _ => cases e
        | nil =>
          cases e
          exact ⟨_, _, _, rfl, fun H' x => (hp.mono x).sq, r1, r2⟩
  | pair hp r1 r2 =>
    cases e
    exact ⟨_, _, _, rfl, fun H' x => SqT.of (x _ _ hp), r1, r2⟩
  | scr ns _ =>
    cases ns with
    | nil => cases e
    | cons n ns =>
      cases ns with
      | nil => cases e
      | cons m ns => cases e
  | _ => cases e
section
variable {K : PySem.W.Frag} {H H' : Hp}
mutual
theorem Dq.mono (e : Ex H H') : ∀ {v : V} {d : PyData}, Dq K H v d → Dq K H' v d
  | _, _, .non => .non
  | _, _, .bl b => .bl b
  | _, _, .int i => .int i
  | _, _, .str x h => .str x h
  | _, _, .lst h l a => .lst (e _ _ h) l (DqAll.mono e a)
  | _, _, .tup h l a => .tup (h.mono e) l (DqAll.mono e a)
  | _, _, .pair h p q => .pair (e _ _ h) (Dq.mono e p) (Dq.mono e q)
  | _, _, .scr ns h => .scr ns (ex_l e h)
  | _, _, .obj x fd h l a => .obj x fd (e _ _ h) l (DqAll.mono e a)
  | _, _, .exc a dd x h => .exc a dd x fun l q => e _ _ (h l q)
theorem DqAll.mono (e : Ex H H') : ∀ {vs : List V} {ds : List PyData}, DqAll K H vs ds → DqAll K H' vs ds
  | _, _, .nil => .nil
  | _, _, .cons h t => .cons (Dq.mono e h) (DqAll.mono e t)
end
theorem DqAll.length : ∀ {vs : List V} {ds : List PyData}, DqAll K H vs ds → vs.length = ds.length
  | _, _, .nil => rfl
  | _, _, .cons _ t => by rw [List.length_cons, List.length_cons, DqAll.length t]
theorem DqAll.get : ∀ {vs : List V} {ds : List PyData} {i : Nat} {d : PyData}, DqAll K H vs ds → ds[i]? = some d → ∃ v, vs[i]? = some v ∧ Dq K H v d
  | _, _, _, _, .nil, e => by simp at e
  | _, _, 0, _, .cons r _, e => by simp at e; subst e; exact ⟨_, rfl, r⟩
  | _, _, i + 1, d, .cons _ t, e => by
    obtain ⟨u, h1, h2⟩ := DqAll.get (i := i) (d := d) t (by simpa using e)
    exact ⟨u, by simpa using h1, h2⟩
theorem DqAll.getV : ∀ {vs : List V} {ds : List PyData} {i : Nat} {v : V}, DqAll K H vs ds → vs[i]? = some v → ∃ d, ds[i]? = some d ∧ Dq K H v d
  | _, _, _, _, .nil, e => by simp at e
  | _, _, 0, _, .cons r _, e => by simp at e; subst e; exact ⟨_, rfl, r⟩
  | _, _, i + 1, v, .cons _ t, e => by
    obtain ⟨u, h1, h2⟩ := DqAll.getV (i := i) (v := v) t (by simpa using e)
    exact ⟨u, by simpa using h1, h2⟩
theorem DqAll.append : ∀ {vs ws : List V} {ds es : List PyData}, DqAll K H vs ds → DqAll K H ws es → DqAll K H (vs ++ ws) (ds ++ es)
  | _, _, _, _, .nil, s => s
  | _, _, _, _, .cons r t, s => .cons r (DqAll.append t s)
theorem DqAll.take : ∀ {vs : List V} {ds : List PyData} (n : Nat), DqAll K H vs ds → DqAll K H (vs.take n) (ds.take n)
  | _, _, 0, _ => .nil
  | _, _, _ + 1, .nil => .nil
  | _, _, n + 1, .cons r t => .cons r (DqAll.take n t)
theorem DqAll.drop : ∀ {vs : List V} {ds : List PyData} (n : Nat), DqAll K H vs ds → DqAll K H (vs.drop n) (ds.drop n)
  | _, _, 0, r => r
  | _, _, _ + 1, .nil => .nil
  | _, _, n + 1, .cons _ t => DqAll.drop n t
theorem DqAll.reverse : ∀ {vs : List V} {ds : List PyData}, DqAll K H vs ds → DqAll K H vs.reverse ds.reverse
  | _, _, .nil => .nil
  | _, _, .cons r t => by
    rw [List.reverse_cons, List.reverse_cons]
    exact (DqAll.reverse t).append (.cons r .nil)
theorem DqAll.eraseIdx : ∀ {vs : List V} {ds : List PyData} (n : Nat), DqAll K H vs ds → DqAll K H (vs.eraseIdx n) (ds.eraseIdx n)
  | _, _, _, .nil => .nil
  | _, _, 0, .cons _ t => t
  | _, _, n + 1, .cons r t => .cons r (DqAll.eraseIdx n t)
theorem DqAll.set {v : V} {d : PyData} (r : Dq K H v d) : ∀ {vs : List V} {ds : List PyData} (n : Nat), DqAll K H vs ds → DqAll K H (vs.set n v) (ds.set n d)
  | _, _, _, .nil => .nil
  | _, _, 0, .cons _ t => .cons r t
  | _, _, n + 1, .cons q t => .cons q (DqAll.set r n t)
theorem DqAll.ints : ∀ (ns : List Int), DqAll K H (ns.map V.int) (ns.map PyData.int)
  | [] => .nil
  | n :: ns => .cons (.int n) (DqAll.ints ns)
theorem DqAll.ints_inv : ∀ {ns : List Int} {vs : List V}, DqAll K H vs (ns.map PyData.int) → vs = ns.map V.int
  | [], _, h => by cases h; rfl
  | n :: ns, _, h => by
    rw [List.map_cons] at h
    cases h with
    | cons r t =>
      cases r
      rw [DqAll.ints_inv t]
      rfl
end

/-! ### slots and temporaries -/
/-- what is known of a slot: nothing, a frozen value, a list of one's own (its items are frozen) -/
inductive Sl where
  | no
  | val (d : PyData)
  | own (ds : List PyData)
abbrev Env := List Sl
def SlOk (K : PySem.W.Frag) (B H0 H : Hp) (v : V) : Sl → Prop
  | .no => True
  | .val d => Dq K H0 v d
  | .own ds => ∃ a xs, v = .ref a ∧ B a = none ∧ H0 a = none ∧ H a = some (.lst xs) ∧ xs.length ≤ sizeLine ∧ DqAll K H0 xs ds
structure Slots (K : PySem.W.Frag) (B H0 H : Hp) (σ : St) (ρ : Env) : Prop where
  len : σ.length = ρ.length
  at_ : ∀ (i : Nat) (s : Sl), ρ[i]? = some s → s ≠ .no → ∃ v, σ[i]? = some (some v) ∧ SlOk K B H0 H v s
  dis : ∀ (i j : Nat) (ds es : List PyData) (a : Addr), i ≠ j → ρ[i]? = some (.own ds) → ρ[j]? = some (.own es) → σ[i]? = some (some (.ref a)) → σ[j]? ≠ some (some (.ref a))
/-- the state: B0, B: the frozen part and the heap at the def's entry -/
def SOk (K : PySem.W.Frag) (B0 B : Hp) (ρ : Env) (ts : List (V × Sl)) (σ : St) (H : Hp) : Prop :=
  ∃ H0, Nw B0 B H0 H ∧ Slots K B H0 H σ ρ ∧ ∀ p ∈ ts, SlOk K B H0 H p.1 p.2

section
variable {K : PySem.W.Frag} {B0 B H0 H H0' H' : Hp} {ρ : Env} {ts : List (V × Sl)} {σ : St}
/-- the heap has grown, the frozen part by new objects -/
theorem SlOk.grow {v : V} {s : Sl} (h : SlOk K B H0 H v s) (n : Nw H0 H H0' H') : SlOk K B H0' H' v s := by
  cases s with
  | no => trivial
  | val d => exact Dq.mono n.a h
  | own ds =>
    obtain ⟨a, xs, e, hB, h0, hp, hl, hd⟩ := h
    refine ⟨a, xs, e, hB, ?_, n.c _ _ hp, hl, hd.mono n.a⟩
    cases q : H0' a with
    | none => rfl
    | some o =>
      rcases n.d a o q with z | z
      · rw [h0] at z; cases z
      · rw [hp] at z; cases z
theorem Slots.grow (h : Slots K B H0 H σ ρ) (n : Nw H0 H H0' H') : Slots K B H0' H' σ ρ :=
  ⟨h.len, fun i s e ne => let ⟨v, e1, q⟩ := h.at_ i s e ne; ⟨v, e1, q.grow n⟩, h.dis⟩
theorem SOk.drop {p : V × Sl} (h : SOk K B0 B ρ (p :: ts) σ H) : SOk K B0 B ρ ts σ H :=
  let ⟨H0, n, s, t⟩ := h; ⟨H0, n, s, fun q hq => t q (List.mem_cons_of_mem _ hq)⟩
theorem SOk.sub {ts' : List (V × Sl)} (h : SOk K B0 B ρ ts σ H) (hs : ∀ p ∈ ts', p ∈ ts) : SOk K B0 B ρ ts' σ H :=
  let ⟨H0, n, s, t⟩ := h; ⟨H0, n, s, fun q hq => t q (hs q hq)⟩
theorem SOk.add {v : V} {d : PyData} (h : SOk K B0 B ρ ts σ H) (hd : ∀ H0, Dq K H0 v d) : SOk K B0 B ρ ((v, .val d) :: ts) σ H :=
  let ⟨H0, n, s, t⟩ := h; ⟨H0, n, s, fun q hq => by
    rcases List.mem_cons.mp hq with e | hq
    · subst e; exact hd H0
    · exact t q hq⟩
theorem SOk.int {i : Int} (h : SOk K B0 B ρ ts σ H) : SOk K B0 B ρ ((.int i, .val (.int i)) :: ts) σ H := h.add fun _ => .int i
theorem SOk.bl {b : Bool} (h : SOk K B0 B ρ ts σ H) : SOk K B0 B ρ ((.bl b, .val (.bool b)) :: ts) σ H := h.add fun _ => .bl b
theorem SOk.non (h : SOk K B0 B ρ ts σ H) : SOk K B0 B ρ ((.non, .val .none) :: ts) σ H := h.add fun _ => .non
theorem SOk.str {x : Str} (h : SOk K B0 B ρ ts σ H) (hx : x.length ≤ sizeLine) : SOk K B0 B ρ ((.str x, .val (.str x)) :: ts) σ H := h.add fun _ => .str x hx
/-- the temporaries' items as a list -/
theorem vals_all {vs : List V} {ds : List PyData} (hl : vs.length = ds.length) (t : ∀ p ∈ vs.zip (ds.map Sl.val), SlOk K B H0 H p.1 p.2) : DqAll K H0 vs ds := by
  induction vs generalizing ds with
  | nil =>
    cases ds with
    | nil => exact .nil
    | cons d ds => cases hl
  | cons v vs ih =>
    cases ds with
    | nil => cases hl
    | cons d ds =>
      refine .cons (t (v, .val d) (by simp)) (ih (by simpa using hl) fun p hp => t p ?_)
      rw [List.map_cons, List.zip_cons_cons]
      exact List.mem_cons_of_mem _ hp
end
end DL

namespace DL
open PySem L2

def Res.goP {α : Type} (r : Res α) (P : α → Prop) (R : Str → Prop) : Prop :=
  match r with
  | .ok a => P a
  | .err x => R x
  | .bad => False
structure Res.go {α : Type} (r : Res α) (P : α → Prop) (R : Str → Prop) : Prop where
  out : r.goP P R
theorem Res.go.bad {α : Type} {P : α → Prop} {R : Str → Prop} {p : Prop} (h : (Res.bad : Res α).go P R) : p := False.elim h.out
theorem Res.go.ok {α : Type} {a : α} {P : α → Prop} {R : Str → Prop} (h : (Res.ok a).go P R) : P a := h.out
theorem Res.go.go_bind {α β : Type} {r : Res α} {k : α → Res β} {P : β → Prop} {R : Str → Prop} (h : (r.bind k).go P R) : r.go (fun a => (k a).go P R) R := by
  cases r with
  | ok a => exact ⟨h⟩
  | err x => exact ⟨h.out⟩
  | bad => exact ⟨h.out⟩
theorem Res.go.go_mono {α : Type} {r : Res α} {P P' : α → Prop} {R : Str → Prop} (h : r.go P R) (k : ∀ a, P a → P' a) : r.go P' R := by
  cases r with
  | ok a => exact ⟨k a h.out⟩
  | err x => exact ⟨h.out⟩
  | bad => exact ⟨h.out⟩

def dat : Sl → PyData
  | .no => .none
  | .val d => d
  | .own ds => .list ds
/-- the class of an exception by its name -/
def ca (mg : Str → Option Value) (x : Str) : Addr :=
  match mg x with
  | some (.ref C) => C
  | _ => 0
def Rz (mg : Str → Option Value) (E : XK) (B0 B : Hp) (x : Str) : Prop := match lineOf x with
  | none => ∀ H0 H, Nw B0 B H0 H → E (.ref (ca mg x)) none H
  | some l => ∀ H0 H dd, Nw B0 B H0 H → H0 dd = some (.xd [("line", lineV l)]) → E (.ref (ca mg "ParseError")) (some dd) H
theorem Rz.plain {mg : Str → Option Value} {E : XK} {B0 B : Hp} {x : Str} (h : Rz mg E B0 B x) (q : lineOf x = none) : ∀ H0 H, Nw B0 B H0 H → E (.ref (ca mg x)) none H := by
  unfold Rz at h
  rw [q] at h
  exact h
theorem Rz.lined {mg : Str → Option Value} {E : XK} {B0 B : Hp} {x : Str} {l : Nat} (h : Rz mg E B0 B x) (q : lineOf x = some l) : ∀ H0 H dd, Nw B0 B H0 H → H0 dd = some (.xd [("line", lineV l)]) → E (.ref (ca mg "ParseError")) (some dd) H := by
  unfold Rz at h
  rw [q] at h
  exact h
theorem Rz.of {mg : Str → Option Value} {E : XK} {B0 B : Hp} {x : Str} (h1 : lineOf x = none → ∀ H0 H, Nw B0 B H0 H → E (.ref (ca mg x)) none H) (h2 : ∀ l, lineOf x = some l → ∀ H0 H dd, Nw B0 B H0 H → H0 dd = some (.xd [("line", lineV l)]) → E (.ref (ca mg "ParseError")) (some dd) H) : Rz mg E B0 B x := by
  unfold Rz
  cases q : lineOf x with
  | none => exact h1 q
  | some l => exact h2 l q
theorem Rz.grow {mg : Str → Option Value} {E : XK} {B0 B H0 H : Hp} {x : Str} (h : Rz mg E B0 B x) (n : Nw B0 B H0 H) : Rz mg E H0 H x :=
  Rz.of (fun q H0' H' n' => h.plain q H0' H' (n.trans n')) fun l q H0' H' dd n' hd => h.lined q H0' H' dd (n.trans n') hd

/-- what lies at a is no other list of one's own -/
def Apart (ρ : Env) (ts : List (V × Sl)) (σ : St) (a : Addr) : Prop :=
  (∀ (i : Nat) (es : List PyData), ρ[i]? = some (.own es) → σ[i]? ≠ some (some (.ref a))) ∧ ∀ p ∈ ts, ∀ es, p.2 = Sl.own es → p.1 ≠ .ref a

section
variable (K : PySem.W.Frag) (mg : Str → Option Value) (E : XK)
/-- a frozen value; a value that may be a list of one's own; a new list of one's own; a test; arguments -/
def tD (f : Env → Res PyData) : TE := fun σ H Q => ∃ B0 B ρ ts, SOk K B0 B ρ ts σ H ∧ (f ρ).go (fun d => ∀ v H', SOk K B0 B ρ ((v, .val d) :: ts) σ H' → Q v H') (Rz mg E B0 B)
def tSh (f : Env → Res PyData) : TE := fun σ H Q => ∃ B0 B ρ ts, SOk K B0 B ρ ts σ H ∧ (f ρ).go (fun d => ∀ v s H', s ≠ .no → dat s = d → SOk K B0 B ρ ((v, s) :: ts) σ H' → Q v H') (Rz mg E B0 B)
def tF (f : Env → Res (List PyData)) : TE := fun σ H Q => ∃ B0 B ρ ts, SOk K B0 B ρ ts σ H ∧ (f ρ).go (fun ds => ∀ a H', SOk K B0 B ρ ((.ref a, .own ds) :: ts) σ H' → Apart ρ ts σ a → Q (.ref a) H') (Rz mg E B0 B)
def tT (f : Env → Res Bool) : TT := fun σ H Q => ∃ B0 B ρ ts, SOk K B0 B ρ ts σ H ∧ (f ρ).go (fun b => ∀ H', SOk K B0 B ρ ts σ H' → Q b H') (Rz mg E B0 B)
def tA (f : Env → Res (List PyData)) : TA := fun σ H Q => ∃ B0 B ρ ts, SOk K B0 B ρ ts σ H ∧ (f ρ).go (fun ds => ∀ vs H', vs.length = ds.length → SOk K B0 B ρ (vs.zip (ds.map Sl.val) ++ ts) σ H' → Q vs H') (Rz mg E B0 B)
def tAS (f : Env → Res (List PyData)) : TA := fun σ H Q => ∃ B0 B ρ ts, SOk K B0 B ρ ts σ H ∧ (f ρ).go (fun ds => ∀ vs ss H', vs.length = ss.length → (∀ s ∈ ss, s ≠ Sl.no) → ss.map dat = ds → SOk K B0 B ρ (vs.zip ss ++ ts) σ H' → Q vs H') (Rz mg E B0 B)
/-- a two-place operation upon values -/
def rD2 (g : PyData → PyData → Res PyData) : R2 := fun x y H Q => ∃ B0 B ρ ts σ sx sy, SOk K B0 B ρ ((y, sy) :: (x, sx) :: ts) σ H ∧ sx ≠ .no ∧ sy ≠ .no ∧
  (g (dat sx) (dat sy)).go (fun d => ∀ v H', SOk K B0 B ρ ((v, .val d) :: ts) σ H' → Q v H') (Rz mg E B0 B)
/-- a call upon values -/
def rDC (g : List PyData → Res PyData) : List V → Hp → VK → Prop := fun vs H Q => ∃ B0 B ρ ts σ ss, vs.length = ss.length ∧ SOk K B0 B ρ (vs.zip ss ++ ts) σ H ∧ (∀ s ∈ ss, s ≠ Sl.no) ∧
  (g (ss.map dat)).go (fun d => ∀ v H', SOk K B0 B ρ ((v, .val d) :: ts) σ H' → Q v H') (Rz mg E B0 B)
end

section
variable {X : Cx} {e a b c : Expr} {t t' : TE} {K : PySem.W.Frag} {mg : Str → Option Value} {E : XK} {pos : Pos}
theorem pe_weak (h : PE X e t) (w : ∀ σ H Q, t' σ H Q → t σ H Q) : PE X e t' := ⟨fun pins s σ H Q I q => h.run pins s σ H Q I (w σ H Q q)⟩
theorem pt_weak {t t' : TT} (h : PT X e t) (w : ∀ σ H Q, t' σ H Q → t σ H Q) : PT X e t' := ⟨fun pins s σ H Q I q => h.run pins s σ H Q I (w σ H Q q)⟩
theorem pw_weak {t t' : TT} (h : PW X e t) (w : ∀ σ H Q, t' σ H Q → t σ H Q) : PW X e t' := ⟨fun wh pins s σ H Q I q => h.run wh pins s σ H Q I (w σ H Q q)⟩
theorem pa_weak {es : List Expr} {t t' : TA} (h : PA X es t) (w : ∀ σ H Q, t' σ H Q → t σ H Q) : PA X es t' := ⟨fun pos pins s σ H Q I q => h.run pos pins s σ H Q I (w σ H Q q)⟩
theorem ps_weak {st : Stmt} {t t' : TS} (h : PS X st t) (w : ∀ D σ H, t' D σ H → t D σ H) : PS X st t' := ⟨fun pins s σ H D I q => h.run pins s σ H D I (w D σ H q)⟩
theorem pss_weak {sts : List Stmt} {t t' : TS} (h : PSs X sts t) (w : ∀ D σ H, t' D σ H → t D σ H) : PSs X sts t' := ⟨fun pins s σ H D I q => h.run pins s σ H D I (w D σ H q)⟩
theorem opr_weak {f : Value → Value → Sem Value} {r r' : R2} (h : OpR X f r) (w : ∀ x y H Q, r' x y H Q → r x y H Q) : OpR X f r' := fun pins s σ H x y v u Q I rx ry q => h pins s σ H x y v u Q I rx ry (w x y H Q q)
theorem callr_weak {f : Value} {r r' : List V → Hp → VK → Prop} (h : CallR X f r) (w : ∀ xs H Q, r' xs H Q → r xs H Q) : CallR X f r' := fun pins s σ H xs us Q I rx q => h pins s σ H xs us Q I rx (w xs H Q q)

/-! ### forms of one another -/
theorem sh_of {f : Env → Res PyData} (h : PE X e (tD K mg E f)) : PE X e (tSh K mg E f) := pe_weak h fun σ H Q ⟨B0, B, ρ, ts, ok, q⟩ =>
  ⟨B0, B, ρ, ts, ok, q.go_mono fun d k v H' s => k v (.val d) H' (by simp) rfl s⟩
/-- a list of one's own is frozen -/
theorem SOk.freeze {B0 B : Hp} {ρ : Env} {ts : List (V × Sl)} {σ : St} {H : Hp} {a : Addr} {ds : List PyData} (h : SOk K B0 B ρ ((.ref a, .own ds) :: ts) σ H) (ap : Apart ρ ts σ a) : SOk K B0 B ρ ((.ref a, .val (.list ds)) :: ts) σ H := by
  obtain ⟨H0, n, s, t⟩ := h
  obtain ⟨a', xs, e, hB, h0, hp, hl, hd⟩ := t (.ref a, .own ds) (by simp)
  cases e
  have ex : Ex H0 (upd H0 a (.lst xs)) := Ex.new h0
  have keep : ∀ (v : V) (s : Sl), SlOk K B H0 H v s → (∀ es, s = .own es → v ≠ .ref a) → SlOk K B (upd H0 a (.lst xs)) H v s := fun v s q ne => by
    cases s with
    | no => trivial
    | val d => exact Dq.mono ex q
    | own es =>
      obtain ⟨b, ys, e, hB', h0', hp', hl', hd'⟩ := q
      refine ⟨b, ys, e, hB', ?_, hp', hl', hd'.mono ex⟩
      rw [upd_ne fun z => ne es rfl (by rw [e, z])]
      exact h0'
  refine ⟨upd H0 a (.lst xs), n.freeze h0 hB hp, ⟨s.len, fun i sl e ne => ?_, s.dis⟩, fun p hp' => ?_⟩
  · obtain ⟨v, e1, q⟩ := s.at_ i sl e ne
    refine ⟨v, e1, keep v sl q fun es z => ?_⟩
    subst z
    intro z
    subst z
    exact ap.1 i es e e1
  · rcases List.mem_cons.mp hp' with z | z
    · subst z
      exact Dq.lst upd_same hl (hd.mono ex)
    · exact keep p.1 p.2 (t p (List.mem_cons_of_mem _ z)) fun es z' => ap.2 p z es z'
theorem d_of_f {f : Env → Res (List PyData)} (h : PE X e (tF K mg E f)) : PE X e (tD K mg E fun ρ => (f ρ).bind fun ds => .ok (.list ds)) := pe_weak h fun σ H Q ⟨B0, B, ρ, ts, ok, q⟩ =>
  ⟨B0, B, ρ, ts, ok, q.go_bind.go_mono fun ds k a H' s ap => k.ok (.ref a) H' (s.freeze ap)⟩

/-! ### names, constants -/
def eVar (i : Nat) : Env → Res PyData := fun ρ => match ρ[i]? with
  | some (.val d) => .ok d
  | _ => .bad
def eVarS (i : Nat) : Env → Res PyData := fun ρ => match ρ[i]? with
  | some (.val d) => .ok d
  | some (.own ds) => .ok (.list ds)
  | _ => .bad
theorem d_var {i : Nat} {x : Str} (hN : X.N[i]? = some x) (hv : Vis X.env.scope x) (hd : (x == ("__debug__" : Str)) = false := by decide) (hcd : (x == ("__classdict__" : Str)) = false := by decide) : PE X (.Name x pos) (tD K mg E (eVar i)) :=
  pe_weak (pe_var hN hv hd hcd) fun σ H Q ⟨B0, B, ρ, ts, ok, q⟩ => by
    unfold eVar at q
    split at q
    · rename_i d hρ
      obtain ⟨H0, n, s, t⟩ := ok
      obtain ⟨v, e1, q1⟩ := s.at_ i _ hρ (by simp)
      exact ⟨v, e1, q.ok v H ⟨H0, n, s, fun p hp => by
        rcases List.mem_cons.mp hp with z | z
        · subst z; exact q1
        · exact t p z⟩⟩
    · exact q.bad
theorem s_var {i : Nat} {x : Str} (hN : X.N[i]? = some x) (hv : Vis X.env.scope x) (hd : (x == ("__debug__" : Str)) = false := by decide) (hcd : (x == ("__classdict__" : Str)) = false := by decide) : PE X (.Name x pos) (tSh K mg E (eVarS i)) :=
  pe_weak (pe_var hN hv hd hcd) fun σ H Q ⟨B0, B, ρ, ts, ok, q⟩ => by
    unfold eVarS at q
    split at q
    · rename_i d hρ
      obtain ⟨H0, n, s, t⟩ := ok
      obtain ⟨v, e1, q1⟩ := s.at_ i _ hρ (by simp)
      exact ⟨v, e1, q.ok v (.val d) H (by simp) rfl ⟨H0, n, s, fun p hp => by
        rcases List.mem_cons.mp hp with z | z
        · subst z; exact q1
        · exact t p z⟩⟩
    · rename_i ds hρ
      obtain ⟨H0, n, s, t⟩ := ok
      obtain ⟨v, e1, q1⟩ := s.at_ i _ hρ (by simp)
      exact ⟨v, e1, q.ok v (.own ds) H (by simp) rfl ⟨H0, n, s, fun p hp => by
        rcases List.mem_cons.mp hp with z | z
        · subst z; exact q1
        · exact t p z⟩⟩
    · exact q.bad
/-- a constant reading -/
def eC (d : PyData) : Env → Res PyData := fun _ => .ok d
theorem d_c {v : V} {d : PyData} (h : PE X e (tC v)) (hd : ∀ H0, Dq K H0 v d) : PE X e (tD K mg E (eC d)) := pe_weak h fun σ H Q ⟨B0, B, ρ, ts, ok, q⟩ => q.ok v H (ok.add hd)
theorem d_int {i : Int} {j : Nat} : PE X (.Constant (.int i) j pos) (tD K mg E (eC (.int i))) := d_c pe_int fun _ => .int i
theorem d_bl {b : Bool} {j : Nat} : PE X (.Constant (.bool b) j pos) (tD K mg E (eC (.bool b))) := d_c pe_bl fun _ => .bl b
theorem d_non {j : Nat} : PE X (.Constant .none j pos) (tD K mg E (eC .none)) := d_c pe_non fun _ => .non
theorem d_str {x : Str} {j : Nat} (h : x.length ≤ sizeLine := by decide) : PE X (.Constant (.str x) j pos) (tD K mg E (eC (.str x))) := d_c pe_str fun _ => .str x h
/-- a module's constant -/
theorem d_globI {x : Str} {i : Int} {t : Tok} (hg : Gl X x) (hm : X.mg x = some (.int i t)) (hd : (x == ("__debug__" : Str)) = false := by decide) : PE X (.Name x pos) (tD K mg E (eC (.int i))) :=
  d_c (pe_glob hg hm (v := .int i) ⟨_, rfl⟩ hd) fun _ => .int i
theorem d_globS {x z : Str} {t : Tok} (hg : Gl X x) (hm : X.mg x = some (.str z t)) (hz : z.length ≤ sizeLine) (hd : (x == ("__debug__" : Str)) = false := by decide) : PE X (.Name x pos) (tD K mg E (eC (.str z))) :=
  d_c (pe_glob hg hm (v := .str z) ⟨_, rfl⟩ hd) fun _ => .str z hz

/-! ### two expressions in a row -/
def e2 (g : PyData → PyData → Res PyData) (f1 f2 : Env → Res PyData) : Env → Res PyData := fun ρ => (f1 ρ).bind fun x => (f2 ρ).bind fun y => g x y
theorem op_tD {g : PyData → PyData → Res PyData} {f1 f2 : Env → Res PyData} {σ : St} {H : Hp} {Q : VK} (q : tD K mg E (e2 g f1 f2) σ H Q) : tOp (rD2 K mg E g) (tSh K mg E f1) (tSh K mg E f2) σ H Q := by
  obtain ⟨B0, B, ρ, ts, ok, q⟩ := q
  refine ⟨B0, B, ρ, ts, ok, q.go_bind.go_mono fun x kx v1 s1 H1 n1 e1 ok1 => ?_⟩
  refine ⟨B0, B, ρ, _, ok1, kx.go_bind.go_mono fun y ky v2 s2 H2 n2 e2 ok2 => ?_⟩
  subst e1 e2
  exact ⟨B0, B, ρ, ts, σ, s1, s2, ok2, n1, n2, ky⟩
theorem d_op {op : Operator} {g : PyData → PyData → Res PyData} {f1 f2 : Env → Res PyData} (ho : OpR X (binaryOp op) (rD2 K mg E g)) (ha : PE X a (tSh K mg E f1)) (hb : PE X b (tSh K mg E f2)) : PE X (.BinOp a op b pos) (tD K mg E (e2 g f1 f2)) :=
  pe_weak (pe_op ho ha hb) fun σ H Q q => op_tD q
theorem d_cmp {op : CmpOp} {g : PyData → PyData → Res PyData} {f1 f2 : Env → Res PyData} (ho : OpR X (compareOp op) (rD2 K mg E g)) (ha : PE X a (tSh K mg E f1)) (hb : PE X b (tSh K mg E f2)) (hm : behindInMarks op b = false) : PE X (.Compare a [op] [b] pos) (tD K mg E (e2 g f1 f2)) :=
  pe_weak (pe_cmpR ho ha hb hm) fun σ H Q q => op_tD q
/-- the truth of data -/
def boolD : PyData → Res Bool
  | .bool b => .ok b
  | _ => .bad
def truD : PyData → Res Bool
  | .none => .ok false
  | .bool b => .ok b
  | .int i => .ok (i != 0)
  | .str x => .ok ((x.length : Int) != 0)
  | .list xs => .ok (!xs.isEmpty)
  | .tuple xs => .ok (!xs.isEmpty)
  | .dict _ => .bad
def tst (f : Env → Res PyData) : Env → Res Bool := fun ρ => (f ρ).bind boolD
def tru (f : Env → Res PyData) : Env → Res Bool := fun ρ => (f ρ).bind truD
theorem test_tT {f : Env → Res PyData} {σ : St} {H : Hp} {Q : Bool → Hp → Prop} (q : tT K mg E (tst f) σ H Q) : tTest (tD K mg E f) σ H Q := by
  obtain ⟨B0, B, ρ, ts, ok, q⟩ := q
  refine ⟨B0, B, ρ, ts, ok, q.go_bind.go_mono fun d k v H' ok' => ?_⟩
  cases d with
  | bool b =>
    obtain ⟨H0, n, s, t⟩ := id ok'
    have z : Dq K H0 v (.bool b) := t (v, .val (.bool b)) (by simp)
    cases z
    exact ⟨b, rfl, k.ok H' ok'.drop⟩
  | _ => exact k.bad
theorem t_cmp {op : CmpOp} {g : PyData → PyData → Res PyData} {f1 f2 : Env → Res PyData} (ho : OpR X (compareOp op) (rD2 K mg E g)) (ha : PE X a (tSh K mg E f1)) (hb : PE X b (tSh K mg E f2)) (hm : behindInMarks op b = false) : PT X (.Compare a [op] [b] pos) (tT K mg E (tst (e2 g f1 f2))) :=
  pt_weak (pt_cmpR ho ha hb hm) fun σ H Q q => by
    have h : tTest (tD K mg E (e2 g f1 f2)) σ H Q := test_tT q
    exact op_tD h
/-- any expression as a test -/
theorem tru_of {H0 : Hp} {B H : Hp} {v : V} {s : Sl} (x : Ex H0 H) (ne : s ≠ .no) (h : SlOk K B H0 H v s) {b : Bool} (hb : truD (dat s) = .ok b) : TruV K v H b := by
  cases s with
  | no => exact absurd rfl ne
  | own ds =>
    obtain ⟨a, xs, e, _, _, hp, hl, hd⟩ := h
    subst e
    have hb : Res.ok (!ds.isEmpty) = .ok b := hb
    cases hb
    refine .inl ⟨xs, SqL.of hp, ?_⟩
    cases hd <;> rfl
  | val d =>
    have h : Dq K H0 v d := h
    cases h with
    | non => cases hb; rfl
    | bl b => cases hb; rfl
    | int i => cases hb; rfl
    | str z hz => cases hb; exact ⟨hz, rfl⟩
    | lst hp hl hd =>
      have hb : Res.ok _ = Res.ok b := hb
      cases hb
      refine .inl ⟨_, SqL.of (x _ _ hp), ?_⟩
      cases hd <;> rfl
    | tup hp hl hd =>
      have hb : Res.ok _ = Res.ok b := hb
      cases hb
      refine .inr (.inl ⟨_, (hp.mono x).sq, ?_⟩)
      cases hd <;> rfl
    | scr ns hq =>
      have hb : Res.bad = Res.ok b := hb
      cases hb
    | pair _ _ _ =>
      have hb : Res.bad = Res.ok b := hb
      cases hb
    | obj _ _ _ _ _ =>
      have hb : Res.bad = Res.ok b := hb
      cases hb
    | exc _ _ =>
      have hb : Res.bad = Res.ok b := hb
      cases hb
theorem Res.go.go_ok {α : Type} {r : Res α} {P : α → Prop} {R : Str → Prop} (h : r.go P R) (ne : ∀ x, r ≠ .err x) : ∃ a, r = .ok a ∧ P a := by
  cases r with
  | ok a => exact ⟨a, rfl, h.ok⟩
  | err x => exact absurd rfl (ne x)
  | bad => exact h.bad
theorem truD_err (d : PyData) (x : Str) : truD d ≠ .err x := by cases d <;> (unfold truD; simp)
theorem t_tru {f : Env → Res PyData} (h : PE X e (tSh X.K mg E f)) (he : ∀ whole, isTrue e X.env whole = (do let v ← whole; standAt e.pos; holding [v] (truthy v)) := by intro _; rfl) : PT X e (tT X.K mg E (tru f)) :=
  pt_weak (pt_truth h he) fun σ H Q ⟨B0, B, ρ, ts, ok, q⟩ => ⟨B0, B, ρ, ts, ok, q.go_bind.go_mono fun d k v s H' ne e ok' => by
    subst e
    obtain ⟨b, hb, kb⟩ := k.go_ok (truD_err _)
    obtain ⟨H0, n, sl, t⟩ := id ok'
    exact ⟨b, tru_of n.b ne (t (v, s) (by simp)) hb, kb H' ok'.drop⟩⟩

/-! ### and, or, not, if -/
variable {rest : List Expr}
def bAnd (f g : Env → Res Bool) : Env → Res Bool := fun ρ => (f ρ).bind fun x => if x = true then g ρ else .ok false
def bOr (f g : Env → Res Bool) : Env → Res Bool := fun ρ => (f ρ).bind fun x => if x = true then .ok true else g ρ
def bNot (f : Env → Res Bool) : Env → Res Bool := fun ρ => (f ρ).bind fun x => .ok (!x)
theorem tw_and1 {f : Env → Res Bool} (h : PT X a (tT K mg E f)) : PW X (.BoolOp .And [a] pos) (tT K mg E f) := pw_and1 h
theorem tw_or1 {f : Env → Res Bool} (h : PT X a (tT K mg E f)) : PW X (.BoolOp .Or [a] pos) (tT K mg E f) := pw_or1 h
theorem tw_and {f g : Env → Res Bool} (ha : PT X a (tT K mg E f)) (hb : PW X (.BoolOp .And (b :: rest) pos) (tT K mg E g)) : PW X (.BoolOp .And (a :: b :: rest) pos) (tT K mg E (bAnd f g)) :=
  pw_weak (pw_and ha hb) fun σ H Q ⟨B0, B, ρ, ts, ok, q⟩ => ⟨B0, B, ρ, ts, ok, q.go_bind.go_mono fun x k H' ok' => by
    cases x with
    | true =>
      show tT K mg E g σ H' Q
      exact ⟨B0, B, ρ, ts, ok', k⟩
    | false => exact k.ok H' ok'⟩
theorem tw_or {f g : Env → Res Bool} (ha : PT X a (tT K mg E f)) (hb : PW X (.BoolOp .Or (b :: rest) pos) (tT K mg E g)) : PW X (.BoolOp .Or (a :: b :: rest) pos) (tT K mg E (bOr f g)) :=
  pw_weak (pw_or ha hb) fun σ H Q ⟨B0, B, ρ, ts, ok, q⟩ => ⟨B0, B, ρ, ts, ok, q.go_bind.go_mono fun x k H' ok' => by
    cases x with
    | false =>
      show tT K mg E g σ H' Q
      exact ⟨B0, B, ρ, ts, ok', k⟩
    | true => exact k.ok H' ok'⟩
theorem t_not {f : Env → Res Bool} (ha : PT X a (tT K mg E f)) : PT X (.UnaryOp .Not a pos) (tT K mg E (bNot f)) :=
  pt_weak (pt_not ha) fun σ H Q ⟨B0, B, ρ, ts, ok, q⟩ => ⟨B0, B, ρ, ts, ok, q.go_bind.go_mono fun _ k => k.ok⟩
/-- as values (bools) -/
def eAnd (f g : Env → Res PyData) : Env → Res PyData := fun ρ => (f ρ).bind fun x => (boolD x).bind fun c => if c = true then g ρ else .ok (.bool false)
def eOr (f g : Env → Res PyData) : Env → Res PyData := fun ρ => (f ρ).bind fun x => (boolD x).bind fun c => if c = true then .ok (.bool true) else g ρ
def eNot (f : Env → Res PyData) : Env → Res PyData := fun ρ => (f ρ).bind fun x => (boolD x).bind fun c => .ok (.bool !c)
theorem SOk.bool {B0 B : Hp} {ρ : Env} {ts : List (V × Sl)} {σ : St} {H : Hp} {v : V} {d : PyData} (ok : SOk K B0 B ρ ((v, .val d) :: ts) σ H) {P : Bool → Prop} {R : Str → Prop} (h : (boolD d).go P R) : ∃ c, v = .bl c ∧ P c := by
  obtain ⟨H0, n, s, t⟩ := id ok
  have z : Dq K H0 v d := t (v, .val d) (by simp)
  cases z with
  | bl c => exact ⟨c, rfl, h.ok⟩
  | _ => exact h.bad
theorem d_one {op : BoolOp} {f : Env → Res PyData} (h : PE X a (tD K mg E f)) : PE X (.BoolOp op [a] pos) (tD K mg E f) := pe_one h
theorem d_and {f g : Env → Res PyData} (ha : PE X a (tD K mg E f)) (hb : PE X (.BoolOp .And (b :: rest) pos) (tD K mg E g)) : PE X (.BoolOp .And (a :: b :: rest) pos) (tD K mg E (eAnd f g)) :=
  pe_weak (pe_and ha hb) fun σ H Q ⟨B0, B, ρ, ts, ok, q⟩ => ⟨B0, B, ρ, ts, ok, q.go_bind.go_mono fun x k v H' ok' => by
    obtain ⟨c, e, k⟩ := ok'.bool k.go_bind
    refine ⟨c, e, ?_⟩
    cases c with
    | true =>
      show tD K mg E g σ H' Q
      exact ⟨B0, B, ρ, ts, ok'.drop, k⟩
    | false => exact k.ok (.bl false) H' ok'.drop.bl⟩
theorem d_or {f g : Env → Res PyData} (ha : PE X a (tD K mg E f)) (hb : PE X (.BoolOp .Or (b :: rest) pos) (tD K mg E g)) : PE X (.BoolOp .Or (a :: b :: rest) pos) (tD K mg E (eOr f g)) :=
  pe_weak (pe_or ha hb) fun σ H Q ⟨B0, B, ρ, ts, ok, q⟩ => ⟨B0, B, ρ, ts, ok, q.go_bind.go_mono fun x k v H' ok' => by
    obtain ⟨c, e, k⟩ := ok'.bool k.go_bind
    refine ⟨c, e, ?_⟩
    cases c with
    | false =>
      show tD K mg E g σ H' Q
      exact ⟨B0, B, ρ, ts, ok'.drop, k⟩
    | true => exact k.ok (.bl true) H' ok'.drop.bl⟩
/-- not x, by x's test -/
def eIf (c : Env → Res Bool) (f g : Env → Res PyData) : Env → Res PyData := fun ρ => (c ρ).bind fun b => if b = true then f ρ else g ρ
theorem d_if {tc : Env → Res Bool} {f g : Env → Res PyData} (hc : PT X c (tT K mg E tc)) (ha : PE X a (tD K mg E f)) (hb : PE X b (tD K mg E g)) : PE X (.IfExp c a b pos) (tD K mg E (eIf tc f g)) :=
  pe_weak (pe_ifExp hc ha hb) fun σ H Q ⟨B0, B, ρ, ts, ok, q⟩ => ⟨B0, B, ρ, ts, ok, q.go_bind.go_mono fun x k H' ok' => by
    cases x with
    | true =>
      show tD K mg E f σ H' Q
      exact ⟨B0, B, ρ, ts, ok', k⟩
    | false =>
      show tD K mg E g σ H' Q
      exact ⟨B0, B, ρ, ts, ok', k⟩⟩

/-! ### arguments -/
def eNil : Env → Res (List PyData) := fun _ => .ok []
def eCons (f : Env → Res PyData) (g : Env → Res (List PyData)) : Env → Res (List PyData) := fun ρ => (f ρ).bind fun x => (g ρ).bind fun xs => .ok (x :: xs)
theorem a_nil : PA X [] (tA K mg E eNil) := pa_weak pa_nil fun σ H Q ⟨B0, B, ρ, ts, ok, q⟩ => q.ok [] H rfl ok
theorem as_nil : PA X [] (tAS K mg E eNil) := pa_weak pa_nil fun σ H Q ⟨B0, B, ρ, ts, ok, q⟩ => q.ok [] [] H rfl (fun _ z => nomatch z) rfl ok
theorem a_cons {es : List Expr} {f : Env → Res PyData} {g : Env → Res (List PyData)} (ha : PE X e (tD K mg E f)) (hr : PA X es (tA K mg E g)) (hs : starEach (e :: es) X.env = (false, eval e X.env) :: starEach es X.env := by rfl) : PA X (e :: es) (tA K mg E (eCons f g)) :=
  pa_weak (pa_cons ha hr hs) fun σ H Q ⟨B0, B, ρ, ts, ok, q⟩ => ⟨B0, B, ρ, ts, ok, q.go_bind.go_mono fun x k v H1 ok1 => ⟨B0, B, ρ, _, ok1, k.go_bind.go_mono fun xs k2 vs H2 hl ok2 => by
    refine k2.ok (v :: vs) H2 (by simp [hl]) (ok2.sub fun p hp => ?_)
    rw [List.map_cons, List.zip_cons_cons] at hp
    rcases List.mem_cons.mp hp with z | z
    · subst z; exact List.mem_append_right _ (List.mem_cons_self)
    · rcases List.mem_append.mp z with z | z
      · exact List.mem_append_left _ z
      · exact List.mem_append_right _ (List.mem_cons_of_mem _ z)⟩⟩
theorem as_cons {es : List Expr} {f : Env → Res PyData} {g : Env → Res (List PyData)} (ha : PE X e (tSh K mg E f)) (hr : PA X es (tAS K mg E g)) (hs : starEach (e :: es) X.env = (false, eval e X.env) :: starEach es X.env := by rfl) : PA X (e :: es) (tAS K mg E (eCons f g)) :=
  pa_weak (pa_cons ha hr hs) fun σ H Q ⟨B0, B, ρ, ts, ok, q⟩ => ⟨B0, B, ρ, ts, ok, q.go_bind.go_mono fun x k v s H1 ne es ok1 => ⟨B0, B, ρ, _, ok1, k.go_bind.go_mono fun xs k2 vs ss H2 hl hn hm ok2 => by
    refine k2.ok (v :: vs) (s :: ss) H2 (by simp [hl]) (fun z hz => ?_) (by rw [List.map_cons, es, hm]) (ok2.sub fun p hp => ?_)
    · rcases List.mem_cons.mp hz with z' | z'
      · subst z'; exact ne
      · exact hn z z'
    · rw [List.zip_cons_cons] at hp
      rcases List.mem_cons.mp hp with z | z
      · subst z; exact List.mem_append_right _ (List.mem_cons_self)
      · rcases List.mem_append.mp z with z | z
        · exact List.mem_append_left _ z
        · exact List.mem_append_right _ (List.mem_cons_of_mem _ z)⟩⟩

/-! ### displays -/
/-- a new frozen tuple, list -/
theorem SOk.tup {B0 B : Hp} {ρ : Env} {ts : List (V × Sl)} {σ : St} {H : Hp} {vs : List V} {ds : List PyData} (ok : SOk K B0 B ρ (vs.zip (ds.map Sl.val) ++ ts) σ H) (hl : vs.length = ds.length) (hz : vs.length ≤ sizeLine) {p : Addr} {o : Obj} (od : o.dict = none) (hp : H p = none) :
    SOk K B0 B ρ ((.ref p, .val (.tuple ds)) :: ts) σ (upd H p (FT o vs)) := by
  obtain ⟨H0, n, s, t⟩ := ok
  have all : DqAll K H0 vs ds := vals_all (B := B) (H := H) hl fun q hq => t q (List.mem_append_left _ hq)
  have al : Nw H0 H (upd H0 p (FT o vs)) (upd H p (FT o vs)) := (Nw.refl n.b).alloc hp
  refine ⟨_, n.trans al, s.grow al, fun q hq => ?_⟩
  rcases List.mem_cons.mp hq with z | z
  · subst z; exact Dq.tup ⟨o, od, upd_same⟩ hz (all.mono al.a)
  · exact (t q (List.mem_append_right _ z)).grow al
theorem SOk.lst {B0 B : Hp} {ρ : Env} {ts : List (V × Sl)} {σ : St} {H : Hp} {vs : List V} {ds : List PyData} (ok : SOk K B0 B ρ (vs.zip (ds.map Sl.val) ++ ts) σ H) (hl : vs.length = ds.length) (hz : vs.length ≤ sizeLine) {p : Addr} (hp : H p = none) :
    SOk K B0 B ρ ((.ref p, .val (.list ds)) :: ts) σ (upd H p (.lst vs)) := by
  obtain ⟨H0, n, s, t⟩ := ok
  have all : DqAll K H0 vs ds := vals_all (B := B) (H := H) hl fun q hq => t q (List.mem_append_left _ hq)
  have al : Nw H0 H (upd H0 p (.lst vs)) (upd H p (.lst vs)) := (Nw.refl n.b).alloc hp
  refine ⟨_, n.trans al, s.grow al, fun q hq => ?_⟩
  rcases List.mem_cons.mp hq with z | z
  · subst z; exact Dq.lst upd_same hz (all.mono al.a)
  · exact (t q (List.mem_append_right _ z)).grow al
def szOk (n : Nat) : Res Unit := if n ≤ sizeLine then .ok () else .bad
theorem szOk_go {n : Nat} {P : Unit → Prop} {R : Str → Prop} (h : (szOk n).go P R) : n ≤ sizeLine ∧ P () := by
  unfold szOk at h
  split at h
  · rename_i q; exact ⟨q, h.ok⟩
  · exact h.bad
def eTup (f : Env → Res (List PyData)) : Env → Res PyData := fun ρ => (f ρ).bind fun ds => (szOk ds.length).bind fun _ => .ok (.tuple ds)
def eLst (f : Env → Res (List PyData)) : Env → Res PyData := fun ρ => (f ρ).bind fun ds => (szOk ds.length).bind fun _ => .ok (.list ds)
theorem d_tup {es : List Expr} {f : Env → Res (List PyData)} {x1} (h : PA X es (tA K mg E f)) : PE X (.Tuple es x1 pos) (tD K mg E (eTup f)) :=
  pe_weak (pe_tupG h) fun σ H Q ⟨B0, B, ρ, ts, ok, q⟩ => ⟨B0, B, ρ, ts, ok, q.go_bind.go_mono fun ds k vs H1 hl ok1 => by
    obtain ⟨hz, k⟩ := szOk_go k.go_bind
    exact ⟨by rw [hl]; exact hz, fun p o od hp => k.ok _ _ (ok1.tup hl (by rw [hl]; exact hz) od hp)⟩⟩
theorem d_lst {es : List Expr} {f : Env → Res (List PyData)} (h : PA X es (tA K mg E f)) : PE X (.List es pos) (tD K mg E (eLst f)) :=
  pe_weak (pe_lst h) fun σ H Q ⟨B0, B, ρ, ts, ok, q⟩ => ⟨B0, B, ρ, ts, ok, q.go_bind.go_mono fun ds k vs H1 hl ok1 => by
    obtain ⟨hz, k⟩ := szOk_go k.go_bind
    exact ⟨by rw [hl]; exact hz, fun p hp => k.ok _ _ (ok1.lst hl (by rw [hl]; exact hz) hp)⟩⟩
/-- a new list of one's own -/
theorem SOk.newOwn {B0 B : Hp} {ρ : Env} {ts : List (V × Sl)} {σ : St} {H : Hp} {vs : List V} {ds : List PyData} (ok : SOk K B0 B ρ ts σ H) (hd : ∀ H0, Nw B0 B H0 H → Slots K B H0 H σ ρ → (∀ p ∈ ts, SlOk K B H0 H p.1 p.2) → DqAll K H0 vs ds) (hz : vs.length ≤ sizeLine) {p : Addr} (hp : H p = none) :
    SOk K B0 B ρ ((.ref p, .own ds) :: ts) σ (upd H p (.lst vs)) ∧ Apart ρ ts σ p := by
  obtain ⟨H0, n, s, t⟩ := ok
  have al : Nw H0 H H0 (upd H p (.lst vs)) := (Nw.refl n.b).fresh hp
  refine ⟨⟨H0, n.trans al, s.grow al, fun q hq => ?_⟩, fun i es e e1 => ?_, fun q hq es e e1 => ?_⟩
  · rcases List.mem_cons.mp hq with z | z
    · subst z; exact ⟨p, vs, rfl, n.c.none hp, n.b.none hp, upd_same, hz, hd H0 n s t⟩
    · exact (t q z).grow al
  · obtain ⟨v, e2, b, xs, e3, _, _, h4, _⟩ := s.at_ i _ e (by simp)
    rw [e1] at e2
    have e2 : V.ref p = v := Option.some.inj (Option.some.inj e2)
    rw [← e2] at e3
    cases e3
    rw [hp] at h4
    cases h4
  · have h := t q hq
    rw [e] at h
    obtain ⟨b, xs, e3, _, _, h4, _⟩ := h
    rw [e1] at e3
    cases e3
    rw [hp] at h4
    cases h4
theorem f_nil : PE X (.List [] pos) (tF K mg E eNil) := pe_weak (pe_lst pa_nil) fun σ H Q ⟨B0, B, ρ, ts, ok, q⟩ =>
  ⟨Nat.zero_le _, fun p hp => let ⟨h1, h2⟩ := ok.newOwn (vs := []) (ds := []) (fun _ _ _ _ => .nil) (Nat.zero_le _) hp; q.ok p _ h1 h2⟩
end
end DL

namespace DL
open PySem L2

/-! ### views -/
section
variable {K : PySem.W.Frag} {mg : Str → Option Value} {E : XK} {B0 B H0 H : Hp} {v : V} {s : Sl} {ρ : Env} {ts : List (V × Sl)} {σ : St}
theorem SlOk.int (h : SlOk K B H0 H v s) {i : Int} (e : dat s = .int i) : v = .int i := by
  cases s with
  | no => cases e
  | own ds => cases e
  | val d =>
    have e : d = .int i := e
    subst e
    have h : Dq K H0 v (.int i) := h
    cases h
    rfl
theorem SlOk.bl (h : SlOk K B H0 H v s) {i : Bool} (e : dat s = .bool i) : v = .bl i := by
  cases s with
  | no => cases e
  | own ds => cases e
  | val d =>
    have e : d = .bool i := e
    subst e
    have h : Dq K H0 v (.bool i) := h
    cases h
    rfl
theorem SlOk.str (h : SlOk K B H0 H v s) {i : Str} (e : dat s = .str i) : v = .str i ∧ i.length ≤ sizeLine := by
  cases s with
  | no => cases e
  | own ds => cases e
  | val d =>
    have e : d = .str i := e
    subst e
    have h : Dq K H0 v (.str i) := h
    cases h with
    | str _ hz => exact ⟨rfl, hz⟩
theorem SlOk.non (h : SlOk K B H0 H v s) (ne : s ≠ .no) (e : dat s = .none) : v = .non := by
  cases s with
  | no => exact absurd rfl ne
  | own ds => cases e
  | val d =>
    have e : d = .none := e
    subst e
    have h : Dq K H0 v .none := h
    cases h
    rfl
theorem SlOk.lst (x : Ex H0 H) (h : SlOk K B H0 H v s) {ds : List PyData} (e : dat s = .list ds) : ∃ a xs, v = .ref a ∧ H a = some (.lst xs) ∧ xs.length ≤ sizeLine ∧ DqAll K H0 xs ds := by
  cases s with
  | no => cases e
  | own es =>
    cases e
    obtain ⟨a, xs, e, _, _, hp, hl, hd⟩ := h
    exact ⟨a, xs, e, hp, hl, hd⟩
  | val d =>
    have e : d = .list ds := e
    subst e
    have h : Dq K H0 v (.list ds) := h
    cases h with
    | lst hp hl hd => exact ⟨_, _, rfl, x _ _ hp, hl, hd⟩
theorem SlOk.tup (x : Ex H0 H) (h : SlOk K B H0 H v s) {ds : List PyData} (e : dat s = .tuple ds) : ∃ a xs, v = .ref a ∧ TupG H a xs ∧ xs.length ≤ sizeLine ∧ DqAll K H0 xs ds := by
  cases s with
  | no => cases e
  | own es => cases e
  | val d =>
    have e : d = .tuple ds := e
    subst e
    have h : Dq K H0 v (.tuple ds) := h
    cases h with
    | tup hp hl hd => exact ⟨_, _, rfl, hp.mono x, hl, hd⟩
theorem scrD_inv {kvs : List (PyData × PyData)} {ns : List Int} (h : scrD ns = .dict kvs) : kvs = ns.map fun n => (PyData.int n, PyData.none) := by
  unfold scrD at h
  cases h
  rfl
theorem SlOk.scr (x : Ex H0 H) (h : SlOk K B H0 H v s) {kvs : List (PyData × PyData)} (e : dat s = .dict kvs) (hk : scrB kvs = true) : ∃ (a : Addr) (ns : List Int), v = .ref a ∧ SqL K H a (ns.map V.int) ∧ kvs = ns.map fun n => (PyData.int n, PyData.none) := by
  cases s with
  | no => cases e
  | own es => cases e
  | val d =>
    have e : d = .dict kvs := e
    have h : Dq K H0 v d := h
    cases h with
    | scr ns hq => exact ⟨_, ns, rfl, ex_l x hq, scrD_inv e⟩
    | pair _ _ _ =>
      cases e
      cases hk
    | obj _ _ _ _ _ =>
      cases e
      cases hk
    | exc _ _ =>
      cases e
      cases hk
    | _ => cases e
theorem mk_val {d : PyData} (n : Nw B0 B H0 H) (s : Slots K B H0 H σ ρ) (t : ∀ p ∈ ts, SlOk K B H0 H p.1 p.2) (h : Dq K H0 v d) : SOk K B0 B ρ ((v, .val d) :: ts) σ H :=
  ⟨H0, n, s, fun p hp => by
    rcases List.mem_cons.mp hp with z | z
    · subst z; exact h
    · exact t p z⟩
theorem mk_tup {vs : List V} {ds : List PyData} {p : Addr} (n : Nw B0 B H0 H) (s : Slots K B H0 H σ ρ) (t : ∀ p ∈ ts, SlOk K B H0 H p.1 p.2) (all : DqAll K H0 vs ds) (hz : vs.length ≤ sizeLine) {o : Obj} (od : o.dict = none) (hp : H p = none) :
    SOk K B0 B ρ ((.ref p, .val (.tuple ds)) :: ts) σ (upd H p (FT o vs)) := by
  have al : Nw H0 H (upd H0 p (FT o vs)) (upd H p (FT o vs)) := (Nw.refl n.b).alloc hp
  refine ⟨_, n.trans al, s.grow al, fun q hq => ?_⟩
  rcases List.mem_cons.mp hq with z | z
  · subst z; exact Dq.tup ⟨o, od, upd_same⟩ hz (all.mono al.a)
  · exact (t q z).grow al
theorem mk_lst {vs : List V} {ds : List PyData} {p : Addr} (n : Nw B0 B H0 H) (s : Slots K B H0 H σ ρ) (t : ∀ p ∈ ts, SlOk K B H0 H p.1 p.2) (all : DqAll K H0 vs ds) (hz : vs.length ≤ sizeLine) (hp : H p = none) :
    SOk K B0 B ρ ((.ref p, .val (.list ds)) :: ts) σ (upd H p (.lst vs)) := by
  have al : Nw H0 H (upd H0 p (.lst vs)) (upd H p (.lst vs)) := (Nw.refl n.b).alloc hp
  refine ⟨_, n.trans al, s.grow al, fun q hq => ?_⟩
  rcases List.mem_cons.mp hq with z | z
  · subst z; exact Dq.lst upd_same hz (all.mono al.a)
  · exact (t q z).grow al
theorem DqAll.flat {vs : List V} {ds : List PyData} (h : DqAll K H vs ds) : ∀ n : Nat, DqAll K H (List.replicate n vs).flatten (List.replicate n ds).flatten
  | 0 => .nil
  | n + 1 => by
    rw [List.replicate_succ, List.replicate_succ, List.flatten_cons, List.flatten_cons]
    exact h.append (DqAll.flat h n)
end

/-! ### arithmetic -/
def addD : PyData → PyData → Res PyData
  | .int i, .int j => .ok (.int (i + j))
  | .str x, .str y => (szOk (x.length + y.length)).bind fun _ => .ok (.str (x ++ y))
  | .tuple xs, .tuple ys => (szOk (xs.length + ys.length)).bind fun _ => .ok (.tuple (xs ++ ys))
  | .list xs, .list ys => (szOk (xs.length + ys.length)).bind fun _ => .ok (.list (xs ++ ys))
  | _, _ => .bad
def subD : PyData → PyData → Res PyData
  | .int i, .int j => .ok (.int (i - j))
  | _, _ => .bad
def mulD : PyData → PyData → Res PyData
  | .int i, .int j => if -(2 ^ 64) < j ∧ j < 2 ^ 64 then .ok (.int (i * j)) else if -(2 ^ 64) < i ∧ i < 2 ^ 64 then .ok (.int (i * j)) else .bad
  | .list xs, .int k => if -(2 ^ 63) ≤ k ∧ k < 2 ^ 63 ∧ xs.length * k.toNat ≤ sizeLine then .ok (.list (List.replicate k.toNat xs).flatten) else .bad
  | .tuple xs, .int k => if xs ≠ [] ∧ 2 ≤ k ∧ k ≤ 1000 ∧ xs.length ≤ 1000 then .ok (.tuple (List.replicate k.toNat xs).flatten) else .bad
  | _, _ => .bad
def modD : PyData → PyData → Res PyData
  | .int i, .int j => if 0 < j then .ok (.int (i % j)) else .bad
  | _, _ => .bad
def fdivD : PyData → PyData → Res PyData
  | .int i, .int j => if 0 < j ∧ j < 1073741824 then .ok (.int (i / j)) else .bad
  | _, _ => .bad
def powD : PyData → PyData → Res PyData
  | .int i, .int j => if 0 ≤ j ∧ j ≤ 1000000 ∧ i.natAbs < 2 ^ 64 then .ok (.int (i ^ j.toNat)) else .bad
  | _, _ => .bad

theorem str_add_length (x y : Str) : (x ++ y).length = x.length + y.length := by
  cases x; cases y
  show (Array.append _ _).size = _
  exact Array.size_append

section
variable {X : Cx} {mg : Str → Option Value} {E : XK}
theorem op_addD : OpR X (binaryOp .Add) (rD2 X.K mg E addD) := opr_weak (op_add.or (op_add_str.or (op_catG.or op_cat))) fun x y H Q ⟨B0, B, ρ, ts, σ, sx, sy, ok, nx, ny, k⟩ => by
  obtain ⟨H0, n, s, t⟩ := id ok
  have hx : SlOk X.K B H0 H x sx := t (x, sx) (by simp)
  have hy : SlOk X.K B H0 H y sy := t (y, sy) (by simp)
  have t' : ∀ p ∈ ts, SlOk X.K B H0 H p.1 p.2 := fun p hp => t p (List.mem_cons_of_mem _ (List.mem_cons_of_mem _ hp))
  generalize ex : dat sx = dx at k
  generalize ey : dat sy = dy at k
  cases dx with
  | int i =>
    cases dy with
    | int j => exact .inl ⟨i, j, hx.int ex, hy.int ey, k.ok _ _ (mk_val n s t' (.int _))⟩
    | _ => exact k.bad
  | str i =>
    cases dy with
    | str j =>
      obtain ⟨hz, k⟩ := szOk_go k.go_bind
      exact .inr (.inl ⟨i, j, (hx.str ex).1, (hy.str ey).1, hz, k.ok _ _ (mk_val n s t' (.str _ (by rw [str_add_length]; exact hz)))⟩)
    | _ => exact k.bad
  | tuple xs =>
    cases dy with
    | tuple ys =>
      obtain ⟨hz, k⟩ := szOk_go k.go_bind
      obtain ⟨a, us, ea, ha, la, da⟩ := hx.tup n.b ex
      obtain ⟨b, ws, eb, hb, lb, db⟩ := hy.tup n.b ey
      have l1 := da.length
      have l2 := db.length
      refine .inr (.inr (.inl ⟨a, b, us, ws, ea, eb, ha.sq, hb.sq, by omega, fun z => ?_, fun z z' => ?_, fun z z' p o od hp => k.ok _ _ (mk_tup n s t' (da.append db) (by rw [List.length_append]; omega) od hp)⟩))
      · have e : xs = [] := List.eq_nil_of_length_eq_zero (by rw [← l1, z]; rfl)
        subst e
        have hq := t (y, sy) (by simp)
        rw [eb] at hq
        cases sy with
        | val d =>
          have e : d = .tuple ys := ey
          subst e
          exact k.ok _ _ (mk_val n s t' hq)
        | own _ => cases ey
        | no => cases ey
      · have e : ys = [] := List.eq_nil_of_length_eq_zero (by rw [← l2, z']; rfl)
        subst e
        have hq := t (x, sx) (by simp)
        rw [ea] at hq
        cases sx with
        | val d =>
          have e : d = .tuple xs := ex
          subst e
          have kk := k.ok
          rw [List.append_nil] at kk
          exact kk _ _ (mk_val n s t' hq)
        | own _ => cases ex
        | no => cases ex
    | _ => exact k.bad
  | list xs =>
    cases dy with
    | list ys =>
      obtain ⟨hz, k⟩ := szOk_go k.go_bind
      obtain ⟨a, us, ea, ha, la, da⟩ := hx.lst n.b ex
      obtain ⟨b, ws, eb, hb, lb, db⟩ := hy.lst n.b ey
      have l1 := da.length
      have l2 := db.length
      exact .inr (.inr (.inr ⟨a, b, us, ws, ea, eb, ha, hb, by omega, fun p hp => k.ok _ _ (mk_lst n s t' (da.append db) (by rw [List.length_append]; omega) hp)⟩))
    | _ => exact k.bad
  | _ => exact k.bad
/-- ints alone -/
theorem opI_of {f : Value → Value → Sem Value} {r : R2} {g : PyData → PyData → Res PyData} {h : Int → Int → Res PyData} (hr : OpR X f r)
    (hg : ∀ d e, (∃ i j, d = .int i ∧ e = .int j ∧ g d e = h i j) ∨ g d e = .bad)
    (w : ∀ i j H Q R, (h i j).go (fun d => (∀ v, (∀ (H0 : Hp), Dq X.K H0 v d) → Q v H)) R → r (.int i) (.int j) H Q) : OpR X f (rD2 X.K mg E g) := opr_weak hr fun x y H Q ⟨B0, B, ρ, ts, σ, sx, sy, ok, nx, ny, k⟩ => by
  obtain ⟨H0, n, s, t⟩ := id ok
  have hx : SlOk X.K B H0 H x sx := t (x, sx) (by simp)
  have hy : SlOk X.K B H0 H y sy := t (y, sy) (by simp)
  have t' : ∀ p ∈ ts, SlOk X.K B H0 H p.1 p.2 := fun p hp => t p (List.mem_cons_of_mem _ (List.mem_cons_of_mem _ hp))
  rcases hg (dat sx) (dat sy) with ⟨i, j, ex, ey, e⟩ | e
  · rw [e] at k
    rw [hx.int ex, hy.int ey]
    exact w i j H Q _ (k.go_mono fun d kd v hd => kd v H (mk_val n s t' (hd H0)))
  · rw [e] at k
    exact k.bad
theorem op_subD : OpR X (binaryOp .Sub) (rD2 X.K mg E subD) := opI_of (h := fun i j => .ok (.int (i - j))) op_sub (fun d e => by
    cases d with
    | int i =>
      cases e with
      | int j => exact .inl ⟨i, j, rfl, rfl, rfl⟩
      | _ => exact .inr rfl
    | _ => exact .inr rfl) fun i j H Q R k => ⟨i, j, rfl, rfl, k.ok _ fun _ => .int _⟩
theorem op_modD : OpR X (binaryOp .Mod) (rD2 X.K mg E modD) := opI_of (h := fun i j => if 0 < j then .ok (.int (i % j)) else .bad) op_mod (fun d e => by
    cases d with
    | int i =>
      cases e with
      | int j => exact .inl ⟨i, j, rfl, rfl, rfl⟩
      | _ => exact .inr rfl
    | _ => exact .inr rfl) fun i j H Q R k => by
  split at k
  · rename_i h
    exact ⟨i, j, rfl, rfl, h, k.ok _ fun _ => .int _⟩
  · exact k.bad
theorem op_fdivD : OpR X (binaryOp .FloorDiv) (rD2 X.K mg E fdivD) := opI_of (h := fun i j => if 0 < j ∧ j < 1073741824 then .ok (.int (i / j)) else .bad) op_fdiv (fun d e => by
    cases d with
    | int i =>
      cases e with
      | int j => exact .inl ⟨i, j, rfl, rfl, rfl⟩
      | _ => exact .inr rfl
    | _ => exact .inr rfl) fun i j H Q R k => by
  split at k
  · rename_i h
    exact ⟨i, j, rfl, rfl, h, k.ok _ fun _ => .int _⟩
  · exact k.bad
theorem op_powD : OpR X (binaryOp .Pow) (rD2 X.K mg E powD) := opI_of (h := fun i j => if 0 ≤ j ∧ j ≤ 1000000 ∧ i.natAbs < 2 ^ 64 then .ok (.int (i ^ j.toNat)) else .bad) op_pow (fun d e => by
    cases d with
    | int i =>
      cases e with
      | int j => exact .inl ⟨i, j, rfl, rfl, rfl⟩
      | _ => exact .inr rfl
    | _ => exact .inr rfl) fun i j H Q R k => by
  split at k
  · rename_i h
    exact ⟨i, j, rfl, rfl, h, k.ok _ fun _ => .int _⟩
  · exact k.bad
theorem op_mulD : OpR X (binaryOp .Mult) (rD2 X.K mg E mulD) := opr_weak (op_mul.or (op_rep.or op_repG)) fun x y H Q ⟨B0, B, ρ, ts, σ, sx, sy, ok, nx, ny, k⟩ => by
  obtain ⟨H0, n, s, t⟩ := id ok
  have hx : SlOk X.K B H0 H x sx := t (x, sx) (by simp)
  have hy : SlOk X.K B H0 H y sy := t (y, sy) (by simp)
  have t' : ∀ p ∈ ts, SlOk X.K B H0 H p.1 p.2 := fun p hp => t p (List.mem_cons_of_mem _ (List.mem_cons_of_mem _ hp))
  generalize ex : dat sx = dx at k
  generalize ey : dat sy = dy at k
  cases dy with
  | int j =>
    cases dx with
    | int i =>
      have k : (if -(2 ^ 64) < j ∧ j < 2 ^ 64 then Res.ok (PyData.int (i * j)) else if -(2 ^ 64) < i ∧ i < 2 ^ 64 then .ok (.int (i * j)) else .bad).go _ _ := k
      split at k
      · rename_i h
        exact .inl ⟨i, j, hx.int ex, hy.int ey, .inr h, k.ok _ _ (mk_val n s t' (.int _))⟩
      · split at k
        · rename_i h
          exact .inl ⟨i, j, hx.int ex, hy.int ey, .inl h, k.ok _ _ (mk_val n s t' (.int _))⟩
        · exact k.bad
    | list xs =>
      have k : (if -(2 ^ 63) ≤ j ∧ j < 2 ^ 63 ∧ xs.length * j.toNat ≤ sizeLine then Res.ok (PyData.list (List.replicate j.toNat xs).flatten) else .bad).go _ _ := k
      split at k
      · rename_i h
        obtain ⟨a, us, ea, ha, la, da⟩ := hx.lst n.b ex
        have l1 := da.length
        refine .inr (.inl ⟨a, j, us, ea, hy.int ey, ha, h.1, h.2.1, by rw [l1]; exact h.2.2, fun p hp => k.ok _ _ (mk_lst n s t' (da.flat _) ?_ hp)⟩)
        rw [(da.flat j.toNat).length, List.length_flatten, List.map_replicate, List.sum_replicate_nat, Nat.mul_comm]
        exact h.2.2
      · exact k.bad
    | tuple xs =>
      have k : (if xs ≠ [] ∧ 2 ≤ j ∧ j ≤ 1000 ∧ xs.length ≤ 1000 then Res.ok (PyData.tuple (List.replicate j.toNat xs).flatten) else .bad).go _ _ := k
      split at k
      · rename_i h
        obtain ⟨a, us, ea, ha, la, da⟩ := hx.tup n.b ex
        have l1 := da.length
        refine .inr (.inr ⟨a, j, us, ea, hy.int ey, ha.sq, ?_, h.2.1, h.2.2.1, by rw [l1]; exact h.2.2.2, fun p o od hp => k.ok _ _ (mk_tup n s t' (da.flat _) ?_ od hp)⟩)
        · intro z
          subst z
          exact h.1 (List.eq_nil_of_length_eq_zero l1.symm)
        · rw [(da.flat j.toNat).length, List.length_flatten, List.map_replicate, List.sum_replicate_nat]
          have h1 : j.toNat ≤ 1000 := by omega
          have h2 : j.toNat * xs.length ≤ 1000 * 1000 := Nat.mul_le_mul h1 h.2.2.2
          exact Nat.le_trans h2 (by decide)
      · exact k.bad
    | _ => exact k.bad
  | _ => cases dx <;> exact k.bad
end
end DL

namespace DL
open PySem L2

/-! ### data as the library reads them -/
section
variable {K : PySem.W.Frag} {H : Hp}
mutual
theorem Dq.dp' : ∀ {v : V} {d : PyData}, Dq K H v d → d.plain = true → Dp K H v d
  | _, _, .non, _ => .non
  | _, _, .bl b, _ => .bl b
  | _, _, .int i, _ => .int i
  | _, _, .str x _, _ => .str x
  | _, _, .lst h _ a, p => .lst (SqL.of h) (DqAll.dp' a (by simpa [PyData.plain] using p))
  | _, _, .pair _ _ _, p => by simp [pr2, PyData.plain] at p
  | _, _, .tup h _ a, p => .tup h.sq (DqAll.dp' a (by simpa [PyData.plain] using p))
  | _, _, .scr ns _, p => by simp [scrD, PyData.plain] at p
theorem DqAll.dp' : ∀ {vs : List V} {ds : List PyData}, DqAll K H vs ds → PyData.plainAll ds = true → DpAll K H vs ds
  | _, _, .nil, _ => .nil
  | _, _, .cons h t, p => by
    rw [PyData.plainAll, Bool.and_eq_true] at p
    exact .cons (Dq.dp' h p.1) (DqAll.dp' t p.2)
end
theorem Dq.dp {v : V} {d : PyData} (p : d.plain = true) (h : Dq K H v d) : Dp K H v d := Dq.dp' h p
theorem DqAll.dp {vs : List V} {ds : List PyData} (p : PyData.plainAll ds = true) (h : DqAll K H vs ds) : DpAll K H vs ds := DqAll.dp' h p
end
section
variable {X : Cx} {pins : List (Addr × Obj)} {σ : St} {B H0 H : Hp} {s : Shared} {v : V} {sl : Sl} {u : Value}
theorem SlOk.dp {K : PySem.W.Frag} (x : Ex H0 H) (h : SlOk K B H0 H v sl) (ne : sl ≠ .no) (p : (dat sl).plain = true) : Dp K H v (dat sl) := by
  cases sl with
  | no => exact absurd rfl ne
  | val d => exact Dq.dp p (Dq.mono x h)
  | own ds =>
    obtain ⟨a, xs, e, _, _, hp, hl, hd⟩ := h
    subst e
    exact .lst (SqL.of hp) (DqAll.dp (by simpa [dat, PyData.plain] using p) (hd.mono x))
theorem SlOk.reads (I : Inv X pins σ H s) (x : Ex H0 H) (h : SlOk X.K B H0 H v sl) (ne : sl ≠ .no) (p : (dat sl).plain = true) (r : RelV v u) : ∃ as, Reads s.heap u (dat sl) as := Dp.reads I _ _ _ (h.dp x ne p) r
end

/-! ### comparisons -/
def okD (d : PyData) : Bool := d.plain && decide (d.depth ≤ 64)
def eqD (x y : PyData) : Res PyData := if okD x = true ∧ okD y = true then .ok (.bool (PyData.eqv x y)) else .bad
def neD (x y : PyData) : Res PyData := if okD x = true ∧ okD y = true then .ok (.bool (!PyData.eqv x y)) else .bad
def isNon : PyData → Bool
  | .none => true
  | _ => false
def ordD (f : PyData → PyData → Bool) (x y : PyData) : Res PyData := if okD x = true ∧ okD y = true ∧ PySem.W.alike x y = true ∧ isNon x = false then .ok (.bool (f x y)) else .bad
def ltD : PyData → PyData → Res PyData
  | .int i, .int j => .ok (.bool (decide (i < j)))
  | x, y => ordD PySem.W.dataLt x y
def gtD : PyData → PyData → Res PyData
  | .int i, .int j => .ok (.bool (decide (j < i)))
  | x, y => ordD (fun x y => PySem.W.dataLt y x) x y
def leD : PyData → PyData → Res PyData
  | .int i, .int j => .ok (.bool (decide (i ≤ j)))
  | x, y => ordD (fun x y => !PySem.W.dataLt y x) x y
def geD : PyData → PyData → Res PyData
  | .int i, .int j => .ok (.bool (decide (j ≤ i)))
  | x, y => ordD (fun x y => !PySem.W.dataLt x y) x y
section
variable {X : Cx} {mg : Str → Option Value} {E : XK}
theorem okD_plain {d : PyData} (h : okD d = true) : d.plain = true := (Bool.and_eq_true_iff.mp h).1
theorem okD_depth {d : PyData} (h : okD d = true) : d.depth ≤ 64 := of_decide_eq_true (Bool.and_eq_true_iff.mp h).2
theorem room2 {A : Around} {x y : PyData} (hu : A.units + 64 < cLine) (h : okD x = true) : A.units + min x.depth y.depth < cLine := by
  have h1 := okD_depth h
  have h2 : min x.depth y.depth ≤ x.depth := Nat.min_le_left _ _
  omega
/-- an operation upon data that the library tells by what they read as, the heap as it was -/
theorem opR_of {f : Value → Value → Sem Value} {g : PyData → PyData → Res PyData}
    (hg : ∀ x y, (∃ b, g x y = .ok (.bool b) ∧ x.plain = true ∧ y.plain = true) ∨ g x y = .bad)
    (rule : ∀ (x y : PyData) (b : Bool) (s : Shared) (v u : Value) (as bs : List Addr) (Q : Value → Shared → Prop), X.A.handled = X.A.handled → g x y = .ok (.bool b) → Reads s.heap v x as → Reads s.heap u y bs → Q (.bool b) s → wpAny (model X.prog X.w) X.A (f v u) Q X.xe s) :
    OpR X f (rD2 X.K mg E g) := by
  intro pins s σ H x y v u Q I rx ry ⟨B0, B, ρ, ts, σ', sx, sy, ok, nx, ny, k⟩
  obtain ⟨H0, n, sl, t⟩ := id ok
  have hx : SlOk X.K B H0 H x sx := t (x, sx) (by simp)
  have hy : SlOk X.K B H0 H y sy := t (y, sy) (by simp)
  have t' : ∀ p ∈ ts, SlOk X.K B H0 H p.1 p.2 := fun p hp => t p (List.mem_cons_of_mem _ (List.mem_cons_of_mem _ hp))
  rcases hg (dat sx) (dat sy) with ⟨b, e, px, py⟩ | e
  · obtain ⟨as, r1⟩ := hx.reads I n.b nx px rx
    obtain ⟨bs, r2⟩ := hy.reads I n.b ny py ry
    rw [e] at k
    exact rule _ _ b s v u as bs _ rfl e r1 r2 ⟨.bl b, H, I, rfl, k.ok _ _ (mk_val n sl t' (.bl b))⟩
  · rw [e] at k
    exact k.bad
theorem eqD_cases (x y : PyData) : (∃ b, eqD x y = .ok (.bool b) ∧ x.plain = true ∧ y.plain = true) ∨ eqD x y = .bad := by
  unfold eqD
  split
  · rename_i h; exact .inl ⟨_, rfl, okD_plain h.1, okD_plain h.2⟩
  · exact .inr rfl
theorem neD_cases (x y : PyData) : (∃ b, neD x y = .ok (.bool b) ∧ x.plain = true ∧ y.plain = true) ∨ neD x y = .bad := by
  unfold neD
  split
  · rename_i h; exact .inl ⟨_, rfl, okD_plain h.1, okD_plain h.2⟩
  · exact .inr rfl
theorem op_eqD' (hu : X.A.units + 64 < cLine) : OpR X (compareOp .Eq) (rD2 X.K mg E eqD) := opR_of eqD_cases fun x y b s v u as bs Q _ e r1 r2 q => by
  unfold eqD at e
  split at e
  · rename_i h
    cases e
    exact PySem.SeqAt.eq_plain r1 r2 (okD_plain h.1) (okD_plain h.2) (room2 hu h.1) q
  · cases e
theorem op_neD' (hu : X.A.units + 64 < cLine) : OpR X (compareOp .NotEq) (rD2 X.K mg E neD) := opR_of neD_cases fun x y b s v u as bs Q _ e r1 r2 q => by
  unfold neD at e
  split at e
  · rename_i h
    cases e
    exact PySem.SeqAt.ne_plain r1 r2 (okD_plain h.1) (okD_plain h.2) (room2 hu h.1) q
  · cases e
theorem isNon_ne {x : PyData} (h : isNon x = false) : x ≠ .none := by
  intro e
  subst e
  cases h
theorem ord_cases (f : PyData → PyData → Bool) (x y : PyData) : (∃ b, ordD f x y = .ok (.bool b) ∧ x.plain = true ∧ y.plain = true) ∨ ordD f x y = .bad := by
  unfold ordD
  split
  · rename_i h; exact .inl ⟨_, rfl, okD_plain h.1, okD_plain h.2.1⟩
  · exact .inr rfl
theorem ord_ok {f : PyData → PyData → Bool} {x y : PyData} {b : Bool} (h : ordD f x y = .ok (.bool b)) : b = f x y ∧ okD x = true ∧ PySem.W.alike x y = true ∧ x ≠ .none := by
  unfold ordD at h
  split at h
  · rename_i q
    cases h
    exact ⟨rfl, q.1, q.2.2.1, isNon_ne q.2.2.2⟩
  · cases h
theorem int_or (x y : PyData) : (∃ i j, x = .int i ∧ y = .int j) ∨ ¬ ∃ i j, x = .int i ∧ y = .int j := Classical.em _
theorem ltD_ne {x y : PyData} (h : ¬ ∃ i j, x = .int i ∧ y = .int j) : ltD x y = ordD PySem.W.dataLt x y := by
  unfold ltD
  split
  · rename_i i j; exact absurd ⟨i, j, rfl, rfl⟩ h
  · rfl
theorem gtD_ne {x y : PyData} (h : ¬ ∃ i j, x = .int i ∧ y = .int j) : gtD x y = ordD (fun x y => PySem.W.dataLt y x) x y := by
  unfold gtD
  split
  · rename_i i j; exact absurd ⟨i, j, rfl, rfl⟩ h
  · rfl
theorem leD_ne {x y : PyData} (h : ¬ ∃ i j, x = .int i ∧ y = .int j) : leD x y = ordD (fun x y => !PySem.W.dataLt y x) x y := by
  unfold leD
  split
  · rename_i i j; exact absurd ⟨i, j, rfl, rfl⟩ h
  · rfl
theorem geD_ne {x y : PyData} (h : ¬ ∃ i j, x = .int i ∧ y = .int j) : geD x y = ordD (fun x y => !PySem.W.dataLt x y) x y := by
  unfold geD
  split
  · rename_i i j; exact absurd ⟨i, j, rfl, rfl⟩ h
  · rfl
theorem op_ltD (hu : X.A.units + 64 < cLine) : OpR X (compareOp .Lt) (rD2 X.K mg E ltD) := by
  refine opR_of (fun x y => ?_) fun x y b s v u as bs Q _ e r1 r2 q => ?_
  · rcases int_or x y with ⟨i, j, rfl, rfl⟩ | h
    · exact .inl ⟨_, rfl, rfl, rfl⟩
    · rw [ltD_ne h]; exact ord_cases _ x y
  · rcases int_or x y with ⟨i, j, rfl, rfl⟩ | h
    · cases r1; cases r2; cases e
      exact PyProof.Rows.lt_int q
    · rw [ltD_ne h] at e
      obtain ⟨rfl, h1, h2, h3⟩ := ord_ok e
      exact PySem.W.lt_data r1 r2 h2 h3 (room2 hu h1) q
theorem op_gtD (hu : X.A.units + 64 < cLine) : OpR X (compareOp .Gt) (rD2 X.K mg E gtD) := by
  refine opR_of (fun x y => ?_) fun x y b s v u as bs Q _ e r1 r2 q => ?_
  · rcases int_or x y with ⟨i, j, rfl, rfl⟩ | h
    · exact .inl ⟨_, rfl, rfl, rfl⟩
    · rw [gtD_ne h]; exact ord_cases _ x y
  · rcases int_or x y with ⟨i, j, rfl, rfl⟩ | h
    · cases r1; cases r2; cases e
      exact PyProof.Rows.gt_int q
    · rw [gtD_ne h] at e
      obtain ⟨rfl, h1, h2, h3⟩ := ord_ok e
      exact PySem.W.gt_data r1 r2 h2 h3 (room2 hu h1) q
theorem op_leD (hu : X.A.units + 64 < cLine) : OpR X (compareOp .LtE) (rD2 X.K mg E leD) := by
  refine opR_of (fun x y => ?_) fun x y b s v u as bs Q _ e r1 r2 q => ?_
  · rcases int_or x y with ⟨i, j, rfl, rfl⟩ | h
    · exact .inl ⟨_, rfl, rfl, rfl⟩
    · rw [leD_ne h]; exact ord_cases _ x y
  · rcases int_or x y with ⟨i, j, rfl, rfl⟩ | h
    · cases r1; cases r2; cases e
      exact PyProof.Rows.le_int q
    · rw [leD_ne h] at e
      obtain ⟨rfl, h1, h2, h3⟩ := ord_ok e
      exact PySem.W.le_data r1 r2 h2 h3 (room2 hu h1) q
theorem op_geD (hu : X.A.units + 64 < cLine) : OpR X (compareOp .GtE) (rD2 X.K mg E geD) := by
  refine opR_of (fun x y => ?_) fun x y b s v u as bs Q _ e r1 r2 q => ?_
  · rcases int_or x y with ⟨i, j, rfl, rfl⟩ | h
    · exact .inl ⟨_, rfl, rfl, rfl⟩
    · rw [geD_ne h]; exact ord_cases _ x y
  · rcases int_or x y with ⟨i, j, rfl, rfl⟩ | h
    · cases r1; cases r2; cases e
      exact PyProof.Rows.ge_int q
    · rw [geD_ne h] at e
      obtain ⟨rfl, h1, h2, h3⟩ := ord_ok e
      exact PySem.W.ge_data r1 r2 h2 h3 (room2 hu h1) q
/-- is None, is not None -/
def isND (x y : PyData) : Res PyData := match y with
  | .none => .ok (.bool (isNon x))
  | _ => .bad
theorem op_isND : OpR X (compareOp .Is) (rD2 X.K mg E isND) := opr_weak op_isN fun x y H Q ⟨B0, B, ρ, ts, σ, sx, sy, ok, nx, ny, k⟩ => by
  obtain ⟨H0, n, s, t⟩ := id ok
  have hx : SlOk X.K B H0 H x sx := t (x, sx) (by simp)
  have hy : SlOk X.K B H0 H y sy := t (y, sy) (by simp)
  have t' : ∀ p ∈ ts, SlOk X.K B H0 H p.1 p.2 := fun p hp => t p (List.mem_cons_of_mem _ (List.mem_cons_of_mem _ hp))
  generalize ey : dat sy = dy at k
  cases dy with
  | none =>
    refine ⟨hy.non ny ey, ?_⟩
    have e : isNon (dat sx) = decide (x = V.non) := by
      cases sx with
      | no => exact absurd rfl nx
      | own ds =>
        obtain ⟨a, xs, e, _⟩ := hx
        subst e
        rfl
      | val d =>
        have hx : Dq X.K H0 x d := hx
        cases hx <;> rfl
    have kk := k.ok
    rw [e] at kk
    exact kk _ _ (mk_val n s t' (.bl _))
  | _ => exact k.bad

/-! ### in, not in -/
def inB (x c : PyData) : Option Bool := match c with
  | .list xs => if PyData.plainAll xs = true ∧ okD x = true then some (xs.any fun y => PyData.eqv y x) else none
  | .tuple xs => if PyData.plainAll xs = true ∧ okD x = true then some (xs.any fun y => PyData.eqv y x) else none
  | .str z => match x with
    | .str y => some (!(Builtin.Str.occurrences z y 0 z.length 1).isEmpty)
    | _ => none
  | _ => none
def inD (x c : PyData) : Res PyData := match inB x c with
  | some b => .ok (.bool b)
  | none => .bad
def niD (x c : PyData) : Res PyData := match inB x c with
  | some b => .ok (.bool !b)
  | none => .bad
theorem room3 {A : Around} {x : PyData} {n : Nat} (hu : A.units + 65 < cLine) (h : okD x = true) : A.units + 1 + min n x.depth < cLine := by
  have h1 := okD_depth h
  have h2 : min n x.depth ≤ x.depth := Nat.min_le_right _ _
  omega
theorem inB_plain {x c : PyData} {b : Bool} (h : inB x c = some b) : x.plain = true ∧ c.plain = true := by
  unfold inB at h
  split at h
  · split at h
    · rename_i q; exact ⟨okD_plain q.2, by simpa [PyData.plain] using q.1⟩
    · cases h
  · split at h
    · rename_i q; exact ⟨okD_plain q.2, by simpa [PyData.plain] using q.1⟩
    · cases h
  · split at h
    · exact ⟨rfl, rfl⟩
    · cases h
  · cases h
theorem op_inD' (hu : X.A.units + 65 < cLine) : OpR X (compareOp .In) (rD2 X.K mg E inD) := by
  refine opR_of (fun x y => ?_) fun x y b s v u as bs Q _ e r1 r2 q => ?_
  · unfold inD
    cases h : inB x y with
    | none => exact .inr rfl
    | some b => exact .inl ⟨b, rfl, inB_plain h⟩
  · unfold inD at e
    cases h : inB x y with
    | none => rw [h] at e; cases e
    | some b' =>
      rw [h] at e
      cases e
      unfold inB at h
      split at h
      · split at h
        · rename_i z
          cases h
          exact PySem.SeqAt.in_list_data r2 r1 z.1 (okD_plain z.2) (room3 hu z.2) q
        · cases h
      · split at h
        · rename_i z
          cases h
          exact PySem.SeqAt.in_tuple_data r2 r1 z.1 (okD_plain z.2) (room3 hu z.2) q
        · cases h
      · split at h
        · cases h
          cases r1; cases r2
          exact PyProof.Rows.in_str q
        · cases h
      · cases h
theorem op_niD (hu : X.A.units + 65 < cLine) : OpR X (compareOp .NotIn) (rD2 X.K mg E niD) := by
  refine opR_of (fun x y => ?_) fun x y b s v u as bs Q _ e r1 r2 q => ?_
  · unfold niD
    cases h : inB x y with
    | none => exact .inr rfl
    | some b => exact .inl ⟨!b, rfl, inB_plain h⟩
  · unfold niD at e
    cases h : inB x y with
    | none => rw [h] at e; cases e
    | some b' =>
      rw [h] at e
      cases e
      unfold inB at h
      split at h
      · split at h
        · rename_i z
          cases h
          exact PySem.SeqAt.notIn_list_data r2 r1 z.1 (okD_plain z.2) (room3 hu z.2) q
        · cases h
      · split at h
        · rename_i z
          cases h
          exact PySem.SeqAt.notIn_tuple_data r2 r1 z.1 (okD_plain z.2) (room3 hu z.2) q
        · cases h
      · split at h
        · cases h
          cases r1; cases r2
          exact PyProof.Rows.notIn_str q
        · cases h
      · cases h
variable {a b c : Expr} {pos : Pos}
/-- a op b op' c -/
def eChain (g g' : PyData → PyData → Res PyData) (f1 f2 f3 : Env → Res PyData) : Env → Res PyData := fun ρ => (f1 ρ).bind fun x => (f2 ρ).bind fun y => (g x y).bind fun z => (boolD z).bind fun c =>
  if c = true then (f3 ρ).bind fun w => g' y w else .ok (.bool false)
theorem chain_tD {K : PySem.W.Frag} {g g' : PyData → PyData → Res PyData} {f1 f2 f3 : Env → Res PyData} {σ : St} {H : Hp} {Q : VK} (q : tD K mg E (eChain g g' f1 f2 f3) σ H Q) : tChain (rD2 K mg E g) (rD2 K mg E g') (tSh K mg E f1) (tSh K mg E f2) (tSh K mg E f3) σ H Q := by
  obtain ⟨B0, B, ρ, ts, ok, q⟩ := q
  refine ⟨B0, B, ρ, ts, ok, q.go_bind.go_mono fun x kx v1 s1 H1 n1 e1 ok1 => ?_⟩
  refine ⟨B0, B, ρ, _, ok1, kx.go_bind.go_mono fun y ky v2 s2 H2 n2 e2 ok2 => ?_⟩
  subst e1 e2
  refine ⟨B0, B, ρ, (v2, s2) :: ts, σ, s1, s2, ok2.sub (fun p hp => ?_), n1, n2, ky.go_bind.go_mono fun z kz v3 H3 ok3 => ?_⟩
  · simp only [List.mem_cons] at hp ⊢
    rcases hp with h | h | h | h
    · exact .inl h
    · exact .inr (.inl h)
    · exact .inl h
    · exact .inr (.inr h)
  · obtain ⟨k, e3, kk⟩ := ok3.bool kz.go_bind
    refine ⟨k, e3, ?_⟩
    cases k with
    | true =>
      show tSh K mg E f3 σ H3 _
      refine ⟨B0, B, ρ, _, ok3.drop, kk.go_bind.go_mono fun w kw v4 s4 H4 n4 e4 ok4 => ?_⟩
      subst e4
      exact ⟨B0, B, ρ, ts, σ, s2, s4, ok4, n2, n4, kw⟩
    | false => exact kk.ok _ _ ok3.drop.drop.bl
theorem d_chain {K : PySem.W.Frag} {op op' : CmpOp} {g g' : PyData → PyData → Res PyData} {f1 f2 f3 : Env → Res PyData} (ho : OpR X (compareOp op) (rD2 K mg E g)) (ho' : OpR X (compareOp op') (rD2 K mg E g')) (ha : PE X a (tSh K mg E f1)) (hb : PE X b (tSh K mg E f2)) (hc : PE X c (tSh K mg E f3))
    (hm : lastMarks [op, op'] [b, c] = false := by with_unfolding_all rfl) : PE X (.Compare a [op, op'] [b, c] pos) (tD K mg E (eChain g g' f1 f2 f3)) := pe_weak (pe_chain ho ho' ha hb hc hm) fun σ H Q q => chain_tD q
theorem t_chain {K : PySem.W.Frag} {op op' : CmpOp} {g g' : PyData → PyData → Res PyData} {f1 f2 f3 : Env → Res PyData} (ho : OpR X (compareOp op) (rD2 K mg E g)) (ho' : OpR X (compareOp op') (rD2 K mg E g')) (ha : PE X a (tSh K mg E f1)) (hb : PE X b (tSh K mg E f2)) (hc : PE X c (tSh K mg E f3))
    (hm : lastMarks [op, op'] [b, c] = false := by with_unfolding_all rfl) : PT X (.Compare a [op, op'] [b, c] pos) (tT K mg E (tst (eChain g g' f1 f2 f3))) := pt_weak (pt_chain ho ho' ha hb hc hm) fun σ H Q q => by
  have h : tTest (tD K mg E (eChain g g' f1 f2 f3)) σ H Q := test_tT q
  exact chain_tD h
end
end DL

namespace DL
open PySem L2

section
variable {X : Cx} {mg : Str → Option Value} {E : XK} {K : PySem.W.Frag}

/-! ### subscripts -/
def ixD : PyData → PyData → Res PyData
  | .list xs, .int i => Res.ofOpt (atI xs i)
  | .tuple xs, .int i => Res.ofOpt (atI xs i)
  | .str z, .int i => (Res.ofOpt (atI z.cps.toList i)).bind fun c => .ok (.str ⟨#[c]⟩)
  | .dict kvs, .int i => if scrB kvs = true then (Res.ofOpt (atI kvs i)).bind fun p => .ok p.1 else .bad
  | _, _ => .bad
theorem ofOpt_go {α : Type} {o : Option α} {P : α → Prop} {R : Str → Prop} (h : (Res.ofOpt o).go P R) : ∃ a, o = some a ∧ P a := by
  cases o with
  | none => exact h.bad
  | some a => exact ⟨a, rfl, h.ok⟩
theorem DqAll.atI {H : Hp} {vs : List V} {ds : List PyData} (h : DqAll K H vs ds) {i : Int} {d : PyData} (e : L2.atI ds i = some d) : ∃ v, L2.atI vs i = some v ∧ Dq K H v d := by
  unfold L2.atI at e ⊢
  rw [← h.length] at e
  cases q : ixN vs.length i with
  | none => rw [q] at e; cases e
  | some j =>
    rw [q] at e
    obtain ⟨v, h1, h2⟩ := h.get (i := j) (d := d) e
    exact ⟨v, h1, h2⟩
theorem atI_map {α β : Type} {f : α → β} {xs : List α} {i : Int} {b : β} (h : atI (xs.map f) i = some b) : ∃ a, atI xs i = some a ∧ b = f a := by
  unfold atI at h ⊢
  rw [List.length_map] at h
  cases q : ixN xs.length i with
  | none => rw [q] at h; cases h
  | some j =>
    rw [q] at h
    have h : (xs.map f)[j]? = some b := h
    rw [List.getElem?_map] at h
    cases q2 : xs[j]? with
    | none => rw [q2] at h; cases h
    | some a =>
      rw [q2] at h
      exact ⟨a, q2, (Option.some.inj h).symm⟩
theorem atI_of_map {α β : Type} (f : α → β) {xs : List α} {i : Int} {a : α} (h : atI xs i = some a) : atI (xs.map f) i = some (f a) := by
  unfold atI at h ⊢
  rw [List.length_map]
  cases q : ixN xs.length i with
  | none => rw [q] at h; cases h
  | some j =>
    rw [q] at h
    have h : xs[j]? = some a := h
    show (xs.map f)[j]? = some (f a)
    rw [List.getElem?_map, h]
    rfl
theorem ixr_weak {r r' : R2} (h : IxR X r) (w : ∀ x y H Q, r' x y H Q → r x y H Q) : IxR X r' := fun value slice pins s σ H x y v u Q I rx ry q hs => h value slice pins s σ H x y v u Q I rx ry (w x y H Q q) hs
theorem ix_D : IxR X (rD2 X.K mg E ixD) := ixr_weak ix_seq fun x y H Q ⟨B0, B, ρ, ts, σ, sx, sy, ok, nx, ny, k⟩ => by
  obtain ⟨H0, n, s, t⟩ := id ok
  have hx : SlOk X.K B H0 H x sx := t (x, sx) (by simp)
  have hy : SlOk X.K B H0 H y sy := t (y, sy) (by simp)
  have t' : ∀ p ∈ ts, SlOk X.K B H0 H p.1 p.2 := fun p hp => t p (List.mem_cons_of_mem _ (List.mem_cons_of_mem _ hp))
  generalize ex : dat sx = dx at k
  generalize ey : dat sy = dy at k
  cases dy with
  | int i =>
    cases dx with
    | list xs =>
      obtain ⟨d, hd, k⟩ := ofOpt_go k
      obtain ⟨a, us, ea, ha, la, da⟩ := hx.lst n.b ex
      obtain ⟨v, hv, dv⟩ := da.atI hd
      exact .inl ⟨a, us, i, v, ea, hy.int ey, SqL.of ha, hv, k _ _ (mk_val n s t' dv)⟩
    | tuple xs =>
      obtain ⟨d, hd, k⟩ := ofOpt_go k
      obtain ⟨a, us, ea, ha, la, da⟩ := hx.tup n.b ex
      obtain ⟨v, hv, dv⟩ := da.atI hd
      exact .inr (.inl ⟨a, us, i, v, ea, hy.int ey, ha.sq, hv, k _ _ (mk_val n s t' dv)⟩)
    | str z =>
      obtain ⟨c, hc, k⟩ := ofOpt_go k.go_bind
      exact .inr (.inr ⟨z, i, c, (hx.str ex).1, hy.int ey, (hx.str ex).2, hc, k.ok _ _ (mk_val n s t' (.str _ (by show 1 ≤ sizeLine; decide)))⟩)
    | dict kvs =>
      have k : (if scrB kvs = true then (Res.ofOpt (atI kvs i)).bind fun p => Res.ok p.1 else .bad).go _ _ := k
      split at k
      case isFalse => exact k.bad
      rename_i hk
      obtain ⟨p, hp, k⟩ := ofOpt_go k.go_bind
      obtain ⟨a, ns, ea, ha, e⟩ := hx.scr n.b ex hk
      subst e
      obtain ⟨m, hm, e⟩ := atI_map hp
      subst e
      exact .inl ⟨a, _, i, .int m, ea, hy.int ey, ha, atI_of_map V.int hm, k.ok _ _ (mk_val n s t' (.int m))⟩
    | _ => exact k.bad
  | _ => cases dx <;> exact k.bad
theorem d_ix {a b : Expr} {pos : Pos} {f1 f2 : Env → Res PyData} (ha : PE X a (tSh X.K mg E f1)) (hb : PE X b (tSh X.K mg E f2)) (hs : PlainIx b := by intro _ _; rfl) : PE X (.Subscript a b pos) (tD X.K mg E (e2 ixD f1 f2)) :=
  pe_weak (pe_ix ix_D ha hb hs) fun σ H Q q => op_tD q

/-! ### slices -/
def cutD {α : Type} (xs : List α) (lo hi : Option Int) : List α := (xs.drop (HT.sIx xs.length 0 lo)).take (HT.sIx xs.length xs.length hi - HT.sIx xs.length 0 lo)
def slD (x : PyData) (lo hi : Option Int) : Res PyData := match x with
  | .list xs => .ok (.list (cutD xs lo hi))
  | .tuple xs => .ok (.tuple (cutD xs lo hi))
  | .str z => .ok (.str (cutS z lo hi))
  | _ => .bad
/-- a slice's part -/
def tOD (K : PySem.W.Frag) (mg : Str → Option Value) (E : XK) (f : Env → Res (Option Int)) : TO := fun σ H Q => ∃ B0 B ρ ts, SOk K B0 B ρ ts σ H ∧ (f ρ).go (fun o => ∀ H', SOk K B0 B ρ ts σ H' → Q o H') (Rz mg E B0 B)
theorem po_weak {e : Option Expr} {t t' : TO} (h : PO X e t) (w : ∀ σ H Q, t' σ H Q → t σ H Q) : PO X e t' := ⟨fun pins s σ H Q I q => h.run pins s σ H Q I (w σ H Q q)⟩
def oNone : Env → Res (Option Int) := fun _ => .ok none
def intD : PyData → Res Int
  | .int i => .ok i
  | _ => .bad
def oSome (f : Env → Res PyData) : Env → Res (Option Int) := fun ρ => (f ρ).bind fun d => (intD d).bind fun i => .ok (some i)
theorem o_none : PO X none (tOD K mg E oNone) := po_weak po_none fun σ H Q ⟨B0, B, ρ, ts, ok, q⟩ => q.ok H ok
theorem o_some {e : Expr} {f : Env → Res PyData} (h : PE X e (tD K mg E f)) : PO X (some e) (tOD K mg E (oSome f)) := po_weak (po_some h) fun σ H Q ⟨B0, B, ρ, ts, ok, q⟩ => ⟨B0, B, ρ, ts, ok, q.go_bind.go_mono fun d k v H' ok' => by
  obtain ⟨H0, n, s, t⟩ := id ok'
  have z : Dq K H0 v d := t (v, .val d) (by simp)
  have k := k.go_bind
  cases z with
  | int i => exact ⟨i, rfl, k.ok.ok H' ok'.drop⟩
  | _ => exact k.bad⟩
theorem slr_weak {r r' : V → Option Int → Option Int → Hp → VK → Prop} (h : SlR X r) (w : ∀ x lo hi H Q, r' x lo hi H Q → r x lo hi H Q) : SlR X r' := fun pins s σ H x v vl vu lo hi sl Q I rx hs pl pu q => h pins s σ H x v vl vu lo hi sl Q I rx hs pl pu (w x lo hi H Q q)
def rSlD (K : PySem.W.Frag) (mg : Str → Option Value) (E : XK) : V → Option Int → Option Int → Hp → VK → Prop := fun x lo hi H Q => ∃ B0 B ρ ts σ sx, SOk K B0 B ρ ((x, sx) :: ts) σ H ∧ sx ≠ .no ∧
  (slD (dat sx) lo hi).go (fun d => ∀ v H', SOk K B0 B ρ ((v, .val d) :: ts) σ H' → Q v H') (Rz mg E B0 B)
theorem cutD_whole {α : Type} (xs : List α) (lo hi : Option Int) (h : HT.sIx xs.length 0 lo = 0 ∧ HT.sIx xs.length xs.length hi = xs.length) : cutD xs lo hi = xs := by
  unfold cutD
  rw [h.1, h.2, List.drop_zero, Nat.sub_zero, List.take_length]
theorem DqAll.cut {H : Hp} {vs : List V} {ds : List PyData} (h : DqAll K H vs ds) (lo hi : Option Int) : DqAll K H (cutV vs lo hi) (cutD ds lo hi) := by
  unfold cutV cutD
  rw [h.length]
  exact (h.drop _).take _
theorem sl_D : SlR X (rSlD X.K mg E) := slr_weak (sl_list.or (sl_tupG.or sl_str)) fun x lo hi H Q ⟨B0, B, ρ, ts, σ, sx, ok, nx, k⟩ => by
  obtain ⟨H0, n, s, t⟩ := id ok
  have hx : SlOk X.K B H0 H x sx := t (x, sx) (by simp)
  have t' : ∀ p ∈ ts, SlOk X.K B H0 H p.1 p.2 := fun p hp => t p (List.mem_cons_of_mem _ hp)
  generalize ex : dat sx = dx at k
  cases dx with
  | list xs =>
    obtain ⟨a, us, ea, ha, la, da⟩ := hx.lst n.b ex
    exact .inl ⟨a, us, ea, SqL.of ha, fun p hp => k.ok _ _ (mk_lst n s t' (da.cut lo hi) (Nat.le_trans (cutV_length us lo hi) la) hp)⟩
  | tuple xs =>
    obtain ⟨a, us, ea, ha, la, da⟩ := hx.tup n.b ex
    refine .inr (.inl ⟨a, us, ea, ha.sq, fun hw => ?_, fun p o od hp => k.ok _ _ (mk_tup n s t' (da.cut lo hi) (Nat.le_trans (cutV_length us lo hi) la) od hp)⟩)
    have kk := k.ok
    rw [cutD_whole xs lo hi (by rw [← da.length]; exact hw)] at kk
    cases sx with
    | val d =>
      have e : d = .tuple xs := ex
      subst e
      rw [ea] at hx
      exact kk _ _ (mk_val n s t' hx)
    | own _ => cases ex
    | no => cases ex
  | str z => exact .inr (.inr ⟨z, (hx.str ex).1, (hx.str ex).2, k.ok _ _ (mk_val n s t' (.str _ (Nat.le_trans (cutS_length z lo hi) (hx.str ex).2)))⟩)
  | _ => exact k.bad
def eSl (f : Env → Res PyData) (l u : Env → Res (Option Int)) : Env → Res PyData := fun ρ => (f ρ).bind fun x => (l ρ).bind fun lo => (u ρ).bind fun hi => slD x lo hi
theorem d_sl {e : Expr} {lo hi : Option Expr} {pos p2 : Pos} {f : Env → Res PyData} {l u : Env → Res (Option Int)} (he : PE X e (tSh X.K mg E f)) (hl : PO X lo (tOD X.K mg E l)) (hu : PO X hi (tOD X.K mg E u)) : PE X (.Subscript e (.Slice lo hi none p2) pos) (tD X.K mg E (eSl f l u)) :=
  pe_weak (pe_slice sl_D he hl hu) fun σ H Q ⟨B0, B, ρ, ts, ok, q⟩ => ⟨B0, B, ρ, ts, ok, q.go_bind.go_mono fun x k v s H1 ne e ok1 => ⟨B0, B, ρ, _, ok1, k.go_bind.go_mono fun lo k2 H2 ok2 => ⟨B0, B, ρ, _, ok2, k2.go_bind.go_mono fun hi k3 H3 ok3 => by
    subst e
    exact ⟨B0, B, ρ, ts, σ, s, ok3, ne, k3⟩⟩⟩⟩
/-- -a -/
def negD : PyData → Res PyData
  | .int i => .ok (.int (-i))
  | _ => .bad
theorem d_neg {a : Expr} {pos : Pos} {f : Env → Res PyData} (ha : PE X a (tD K mg E f)) : PE X (.UnaryOp .USub a pos) (tD K mg E fun ρ => (f ρ).bind negD) := pe_weak (pe_un un_neg ha) fun σ H Q ⟨B0, B, ρ, ts, ok, q⟩ => ⟨B0, B, ρ, ts, ok, q.go_bind.go_mono fun d k v H' ok' => by
  obtain ⟨H0, n, s, t⟩ := id ok'
  have z : Dq K H0 v d := t (v, .val d) (by simp)
  cases z with
  | int i => exact ⟨i, rfl, k.ok _ H' ok'.drop.int⟩
  | _ => exact k.bad⟩

/-! ### built-ins called -/
def call1 (f : PyData → Res PyData) : List PyData → Res PyData
  | [x] => f x
  | _ => .bad
def call2 (f : PyData → PyData → Res PyData) : List PyData → Res PyData
  | [x, y] => f x y
  | _ => .bad
def eCall (g : List PyData → Res PyData) (f : Env → Res (List PyData)) : Env → Res PyData := fun ρ => (f ρ).bind g
theorem cb_tD {g : List PyData → Res PyData} {f : Env → Res (List PyData)} {σ : St} {H : Hp} {Q : VK} (q : tD K mg E (eCall g f) σ H Q) : tCB (rDC K mg E g) (tAS K mg E f) σ H Q := by
  obtain ⟨B0, B, ρ, ts, ok, q⟩ := q
  refine ⟨B0, B, ρ, ts, ok, q.go_bind.go_mono fun ds k vs ss H' hl hn hm ok' => ?_⟩
  subst hm
  exact ⟨B0, B, ρ, ts, σ, ss, hl, ok', hn, k⟩
variable {x : Str} {p pos : Pos} {e : Expr} {es : List Expr}
theorem d_callB {id : String} {g : List PyData → Res PyData} {f : Env → Res (List PyData)} (hc : CallR X (.builtin id) (rDC K mg E g)) (hg : Gl X x) (hm : X.mg x = none) (hv : bootBuiltins x = some (.builtin id)) (ha : PA X (e :: es) (tAS K mg E f)) (hn : x ≠ "__name__" := by decide) (hdb : (x == ("__debug__" : Str)) = false := by decide)
    (he : starEach (e :: es) X.env = (false, eval e X.env) :: starEach es X.env := by rfl) (hpl : (backTo pos (starEach es X.env)).any (·.1) = false := by rfl) : PE X (.Call (.Name x p) (e :: es) [] pos) (tD K mg E (eCall g f)) :=
  pe_weak (pe_callB hc hg hm hv ha hn hdb he hpl) fun σ H Q q => cb_tD q
theorem d_callTy {T : String} {g : List PyData → Res PyData} {f : Env → Res (List PyData)} (hc : CallR X (.type T) (rDC K mg E g)) (hg : Gl X x) (hm : X.mg x = none) (hv : bootBuiltins x = some (.type T)) (ha : PA X (e :: es) (tAS K mg E f)) (hn : x ≠ "__name__" := by decide) (hdb : (x == ("__debug__" : Str)) = false := by decide)
    (he : starEach (e :: es) X.env = (false, eval e X.env) :: starEach es X.env := by rfl) (hpl : (backTo pos (starEach es X.env)).any (·.1) = false := by rfl) : PE X (.Call (.Name x p) (e :: es) [] pos) (tD K mg E (eCall g f)) :=
  pe_weak (pe_callTy hc hg hm hv ha hn hdb he hpl) fun σ H Q q => cb_tD q
/-- one argument -/
theorem call1_of {r : List V → Hp → VK → Prop} {f : Value} {g : PyData → Res PyData} (hr : CallR X f r)
    (w : ∀ (B0 B H0 H : Hp) (ρ : Env) (ts : List (V × Sl)) (σ : St) (x : V) (s : Sl) (Q : VK), Nw B0 B H0 H → Slots K B H0 H σ ρ → (∀ p ∈ ts, SlOk K B H0 H p.1 p.2) → SlOk K B H0 H x s → s ≠ .no →
      (g (dat s)).go (fun d => ∀ v H', SOk K B0 B ρ ((v, .val d) :: ts) σ H' → Q v H') (Rz mg E B0 B) → r [x] H Q) : CallR X f (rDC K mg E (call1 g)) := callr_weak hr fun xs H Q ⟨B0, B, ρ, ts, σ, ss, hl, ok, hn, k⟩ => by
  cases ss with
  | nil => exact k.bad
  | cons s ss =>
    cases ss with
    | nil =>
      cases xs with
      | nil => cases hl
      | cons x xs =>
        cases xs with
        | nil =>
          obtain ⟨H0, n, sl, t⟩ := id ok
          exact w B0 B H0 H ρ ts σ x s Q n sl (fun p hp => t p (by simp [hp])) (t (x, s) (by simp)) (hn s (by simp)) k
        | cons _ _ => simp at hl
    | cons _ _ => exact k.bad
theorem call2_of {r : List V → Hp → VK → Prop} {f : Value} {g : PyData → PyData → Res PyData} (hr : CallR X f r)
    (w : ∀ (B0 B H0 H : Hp) (ρ : Env) (ts : List (V × Sl)) (σ : St) (x y : V) (s s2 : Sl) (Q : VK), Nw B0 B H0 H → Slots K B H0 H σ ρ → (∀ p ∈ ts, SlOk K B H0 H p.1 p.2) → SlOk K B H0 H x s → s ≠ .no → SlOk K B H0 H y s2 → s2 ≠ .no →
      (g (dat s) (dat s2)).go (fun d => ∀ v H', SOk K B0 B ρ ((v, .val d) :: ts) σ H' → Q v H') (Rz mg E B0 B) → r [x, y] H Q) : CallR X f (rDC K mg E (call2 g)) := callr_weak hr fun xs H Q ⟨B0, B, ρ, ts, σ, ss, hl, ok, hn, k⟩ => by
  cases ss with
  | nil => exact k.bad
  | cons s ss =>
    cases ss with
    | nil => exact k.bad
    | cons s2 ss =>
      cases ss with
      | cons _ _ => exact k.bad
      | nil =>
        cases xs with
        | nil => cases hl
        | cons x xs =>
          cases xs with
          | nil => cases hl
          | cons y xs =>
            cases xs with
            | nil =>
              obtain ⟨H0, n, sl, t⟩ := id ok
              exact w B0 B H0 H ρ ts σ x y s s2 Q n sl (fun p hp => t p (by simp [hp])) (t (x, s) (by simp)) (hn s (by simp)) (t (y, s2) (by simp)) (hn s2 (by simp)) k
            | cons _ _ => simp at hl
/-- len -/
def lenD : PyData → Res PyData
  | .list xs => .ok (.int xs.length)
  | .tuple xs => .ok (.int xs.length)
  | .str z => .ok (.int z.length)
  | .dict kvs => if scrB kvs = true then .ok (.int kvs.length) else .bad
  | _ => .bad
theorem callr_or {f : Value} {r r' : List V → Hp → VK → Prop} (h : CallR X f r) (h' : CallR X f r') : CallR X f (fun xs H Q => r xs H Q ∨ r' xs H Q) := fun pins s σ H xs us Q I rx q => by
  rcases q with q | q
  · exact h pins s σ H xs us Q I rx q
  · exact h' pins s σ H xs us Q I rx q
theorem c_len : CallR X (.builtin "len") (rDC X.K mg E (call1 lenD)) := call1_of (callr_or call_len_seq call_len_str) fun B0 B H0 H ρ ts σ x s Q n sl t hx ne k => by
  generalize ex : dat s = dx at k
  cases dx with
  | list xs =>
    obtain ⟨a, us, ea, ha, la, da⟩ := hx.lst n.b ex
    have k := k.ok
    rw [← da.length] at k
    exact .inl ⟨a, us, by rw [ea], .inl (SqL.of ha), k _ _ (mk_val n sl t (.int _))⟩
  | tuple xs =>
    obtain ⟨a, us, ea, ha, la, da⟩ := hx.tup n.b ex
    have k := k.ok
    rw [← da.length] at k
    exact .inl ⟨a, us, by rw [ea], .inr (ha.sq), k _ _ (mk_val n sl t (.int _))⟩
  | str z => exact .inr ⟨z, by rw [(hx.str ex).1], (hx.str ex).2, k.ok _ _ (mk_val n sl t (.int _))⟩
  | dict kvs =>
    have k : (if scrB kvs = true then Res.ok (PyData.int kvs.length) else .bad).go _ _ := k
    split at k
    case isFalse => exact k.bad
    rename_i hk
    obtain ⟨a, ns, ea, ha, e⟩ := hx.scr n.b ex hk
    subst e
    have k := k.ok
    rw [List.length_map] at k
    refine .inl ⟨a, _, by rw [ea], .inl ha, ?_⟩
    rw [List.length_map]
    exact k _ _ (mk_val n sl t (.int _))
  | _ => exact k.bad
/-- min, max of two ints -/
def min2D : PyData → PyData → Res PyData
  | .int i, .int j => .ok (.int (if j < i then j else i))
  | _, _ => .bad
def max2D : PyData → PyData → Res PyData
  | .int i, .int j => .ok (.int (if j > i then j else i))
  | _, _ => .bad
theorem c_min2 (hc : X.calm = true) : CallR X (.builtin "min") (rDC X.K mg E (call2 min2D)) := call2_of (call_min2 hc) fun B0 B H0 H ρ ts σ x y s s2 Q n sl t hx ne hy ne2 k => by
  generalize ex : dat s = dx at k
  generalize ey : dat s2 = dy at k
  cases dx with
  | int i =>
    cases dy with
    | int j => exact ⟨i, j, by rw [hx.int ex, hy.int ey], k.ok _ _ (mk_val n sl t (.int _))⟩
    | _ => exact k.bad
  | _ => exact k.bad
theorem c_max2 (hc : X.calm = true) : CallR X (.builtin "max") (rDC X.K mg E (call2 max2D)) := call2_of (call_max2 hc) fun B0 B H0 H ρ ts σ x y s s2 Q n sl t hx ne hy ne2 k => by
  generalize ex : dat s = dx at k
  generalize ey : dat s2 = dy at k
  cases dx with
  | int i =>
    cases dy with
    | int j => exact ⟨i, j, by rw [hx.int ex, hy.int ey], k.ok _ _ (mk_val n sl t (.int _))⟩
    | _ => exact k.bad
  | _ => exact k.bad
/-- tuple(x), list(x) -/
def tupD : PyData → Res PyData
  | .list xs => .ok (.tuple xs)
  | .tuple xs => .ok (.tuple xs)
  | _ => .bad
def lstD : PyData → Res PyData
  | .list xs => .ok (.list xs)
  | .tuple xs => .ok (.list xs)
  | _ => .bad
theorem c_tuple : CallR X (.type "tuple") (rDC X.K mg E (call1 tupD)) := call1_of call_tupleG fun B0 B H0 H ρ ts σ x s Q n sl t hx ne k => by
  generalize ex : dat s = dx at k
  cases dx with
  | list xs =>
    obtain ⟨a, us, ea, ha, la, da⟩ := hx.lst n.b ex
    exact ⟨a, us, by rw [ea], .inl ⟨SqL.of ha, fun p o od hp => k.ok _ _ (mk_tup n sl t da la od hp)⟩⟩
  | tuple xs =>
    obtain ⟨a, us, ea, ha, la, da⟩ := hx.tup n.b ex
    exact ⟨a, us, by rw [ea], .inr ⟨ha.sq, by
      cases s with
      | val d =>
        have e : d = .tuple xs := ex
        subst e
        rw [ea] at hx
        exact k.ok _ _ (mk_val n sl t hx)
      | own _ => cases ex
      | no => cases ex⟩⟩
  | _ => exact k.bad
theorem c_list : CallR X (.type "list") (rDC X.K mg E (call1 lstD)) := call1_of call_list_of fun B0 B H0 H ρ ts σ x s Q n sl t hx ne k => by
  generalize ex : dat s = dx at k
  cases dx with
  | list xs =>
    obtain ⟨a, us, ea, ha, la, da⟩ := hx.lst n.b ex
    exact ⟨a, us, by rw [ea], .inl (SqL.of ha), fun p hp => k.ok _ _ (mk_lst n sl t da la hp)⟩
  | tuple xs =>
    obtain ⟨a, us, ea, ha, la, da⟩ := hx.tup n.b ex
    exact ⟨a, us, by rw [ea], .inr (ha.sq), fun p hp => k.ok _ _ (mk_lst n sl t da la hp)⟩
  | _ => exact k.bad
/-- int(x), str(n) -/
def intofD : PyData → Res PyData
  | .int i => .ok (.int i)
  | .bool b => .ok (.int (if b then 1 else 0))
  | _ => .bad
theorem c_int : CallR X (.type "int") (rDC X.K mg E (call1 intofD)) := call1_of call_int1 fun B0 B H0 H ρ ts σ x s Q n sl t hx ne k => by
  generalize ex : dat s = dx at k
  cases dx with
  | int i => exact .inl ⟨i, by rw [hx.int ex], k.ok _ _ (mk_val n sl t (.int _))⟩
  | bool b => exact .inr ⟨b, by rw [hx.bl ex], k.ok _ _ (mk_val n sl t (.int _))⟩
  | _ => exact k.bad
def strofD : PyData → Res PyData
  | .int i => if i.natAbs.log2 < 1920 ∧ (toString i : Str).length ≤ sizeLine then .ok (.str (toString i)) else .bad
  | _ => .bad
theorem c_str : CallR X (.type "str") (rDC X.K mg E (call1 strofD)) := call1_of call_str_int fun B0 B H0 H ρ ts σ x s Q n sl t hx ne k => by
  generalize ex : dat s = dx at k
  cases dx with
  | int i =>
    have k : (if i.natAbs.log2 < 1920 ∧ (toString i : Str).length ≤ sizeLine then Res.ok (PyData.str (toString i)) else .bad).go _ _ := k
    split at k
    · rename_i h
      exact ⟨i, by rw [hx.int ex], h.1, k.ok _ _ (mk_val n sl t (.str _ h.2))⟩
    · exact k.bad
  | _ => exact k.bad
end
end DL

namespace DL
open PySem L2

/-! ### stores -/
section
variable {K : PySem.W.Frag} {B0 B H : Hp} {ρ : Env} {ts : List (V × Sl)} {σ : St}
theorem SOk.set {v : V} {d : PyData} (h : SOk K B0 B ρ ((v, .val d) :: ts) σ H) (i : Nat) : SOk K B0 B (ρ.set i (.val d)) ts (σ.set i (some v)) H := by
  obtain ⟨H0, n, s, t⟩ := h
  refine ⟨H0, n, ⟨by rw [List.length_set, List.length_set]; exact s.len, fun j sl e ne => ?_, fun j k ds es a hjk ej ek e1 e2 => ?_⟩, fun p hp => t p (List.mem_cons_of_mem _ hp)⟩
  · by_cases hj : i = j
    · subst hj
      rw [List.getElem?_set] at e
      rw [if_pos rfl] at e
      split at e
      · rename_i hi
        cases e
        refine ⟨v, ?_, t (v, .val d) (by simp)⟩
        rw [List.getElem?_set, if_pos rfl, if_pos (by rw [s.len]; exact hi)]
      · cases e
    · rw [List.getElem?_set, if_neg hj] at e
      obtain ⟨w, e1, q⟩ := s.at_ j sl e ne
      exact ⟨w, by rw [List.getElem?_set, if_neg hj]; exact e1, q⟩
  · have nj : i ≠ j := by
      intro z
      subst z
      rw [List.getElem?_set, if_pos rfl] at ej
      split at ej <;> cases ej
    have nk : i ≠ k := by
      intro z
      subst z
      rw [List.getElem?_set, if_pos rfl] at ek
      split at ek <;> cases ek
    rw [List.getElem?_set, if_neg nj] at ej e1
    rw [List.getElem?_set, if_neg nk] at ek e2
    exact s.dis j k ds es a hjk ej ek e1 e2
theorem SOk.setOwn {a : Addr} {ds : List PyData} (h : SOk K B0 B ρ ((.ref a, .own ds) :: ts) σ H) (ap : Apart ρ ts σ a) (i : Nat) : SOk K B0 B (ρ.set i (.own ds)) ts (σ.set i (some (.ref a))) H := by
  obtain ⟨H0, n, s, t⟩ := h
  refine ⟨H0, n, ⟨by rw [List.length_set, List.length_set]; exact s.len, fun j sl e ne => ?_, fun j k ds' es b hjk ej ek e1 e2 => ?_⟩, fun p hp => t p (List.mem_cons_of_mem _ hp)⟩
  · by_cases hj : i = j
    · subst hj
      rw [List.getElem?_set] at e
      rw [if_pos rfl] at e
      split at e
      · rename_i hi
        cases e
        refine ⟨.ref a, ?_, t (.ref a, .own ds) (by simp)⟩
        rw [List.getElem?_set, if_pos rfl, if_pos (by rw [s.len]; exact hi)]
      · cases e
    · rw [List.getElem?_set, if_neg hj] at e
      obtain ⟨w, e1, q⟩ := s.at_ j sl e ne
      exact ⟨w, by rw [List.getElem?_set, if_neg hj]; exact e1, q⟩
  · by_cases nj : i = j
    · subst nj
      have nk : i ≠ k := hjk
      rw [List.getElem?_set, if_pos rfl] at e1
      rw [List.getElem?_set, if_neg nk] at ek e2
      split at e1
      · cases e1
        exact ap.1 k es ek e2
      · cases e1
    · by_cases nk : i = k
      · subst nk
        rw [List.getElem?_set, if_neg nj] at ej e1
        rw [List.getElem?_set, if_pos rfl] at e2
        split at e2
        · cases e2
          exact ap.1 j ds' ej e1
        · cases e2
      · rw [List.getElem?_set, if_neg nj] at ej e1
        rw [List.getElem?_set, if_neg nk] at ek e2
        exact s.dis j k ds' es b hjk ej ek e1 e2
/-- forgetting slots -/
theorem SOk.forget {σ' : St} {ρ' : Env} (h : SOk K B0 B ρ ts σ H) (hl : σ'.length = ρ'.length) (hr : ∀ (i : Nat) (s : Sl), ρ'[i]? = some s → s ≠ .no → ρ[i]? = some s) (hs : ∀ (i : Nat) (s : Sl), ρ'[i]? = some s → s ≠ .no → σ'[i]? = σ[i]?) : SOk K B0 B ρ' ts σ' H := by
  obtain ⟨H0, n, s, t⟩ := h
  refine ⟨H0, n, ⟨hl, fun i sl e ne => ?_, fun i j ds es a hij ei ej e1 e2 => ?_⟩, t⟩
  · obtain ⟨v, e1, q⟩ := s.at_ i sl (hr i sl e ne) ne
    exact ⟨v, (hs i sl e ne).trans e1, q⟩
  · exact s.dis i j ds es a hij (hr i _ ei (by simp)) (hr j _ ej (by simp)) ((hs i _ ei (by simp)).symm.trans e1) ((hs j _ ej (by simp)).symm.trans e2)
def AllVal (ts : List (V × Sl)) : Prop := ∀ p ∈ ts, ∃ d, p.2 = Sl.val d
/-- the list of one's own in slot i is written -/
theorem SOk.write {i : Nat} {ds es : List PyData} {a : Addr} {ys : List V} (h : SOk K B0 B ρ ts σ H) (hv : AllVal ts) (hi : ρ[i]? = some (.own ds)) (ha : σ[i]? = some (some (.ref a)))
    (hd : ∀ H0, Nw B0 B H0 H → Slots K B H0 H σ ρ → (∀ p ∈ ts, SlOk K B H0 H p.1 p.2) → DqAll K H0 ys es) (hz : ys.length ≤ sizeLine) : SOk K B0 B (ρ.set i (.own es)) ts σ (upd H a (.lst ys)) := by
  obtain ⟨H0, n, s, t⟩ := h
  obtain ⟨v, e1, b, xs, e2, hB, h0, hp, hl, hq⟩ := s.at_ i _ hi (by simp)
  rw [ha] at e1
  have e1 : V.ref a = v := Option.some.inj (Option.some.inj e1)
  rw [← e1] at e2
  cases e2
  have hilt : i < ρ.length := (List.getElem?_eq_some_iff.mp hi).1
  have keep : ∀ (w : V) (sl : Sl), SlOk K B H0 H w sl → (∀ es', sl = .own es' → w ≠ .ref a) → SlOk K B H0 (upd H a (.lst ys)) w sl := fun w sl q ne => by
    cases sl with
    | no => trivial
    | val d => exact q
    | own es' =>
      obtain ⟨c, zs, e, hB', h0', hp', hl', hd'⟩ := q
      exact ⟨c, zs, e, hB', h0', by rw [upd_ne fun z => ne es' rfl (by rw [e, z])]; exact hp', hl', hd'⟩
  refine ⟨H0, n.write h0 hB, ⟨by rw [List.length_set]; exact s.len, fun j sl e ne => ?_, fun j k ds' es' b hjk ej ek q1 q2 => ?_⟩, fun p hp' => ?_⟩
  · by_cases hj : i = j
    · subst hj
      rw [List.getElem?_set, if_pos rfl, if_pos hilt] at e
      cases e
      exact ⟨.ref a, ha, a, ys, rfl, hB, h0, upd_same, hz, hd H0 n s t⟩
    · rw [List.getElem?_set, if_neg hj] at e
      obtain ⟨w, e1', q⟩ := s.at_ j sl e ne
      refine ⟨w, e1', keep w sl q fun es' z => ?_⟩
      subst z
      intro z
      subst z
      exact s.dis i j ds es' a hj hi e ha e1'
  · have oj : ∃ zs, ρ[j]? = some (.own zs) := by
      by_cases hj : i = j
      · subst hj; exact ⟨ds, hi⟩
      · rw [List.getElem?_set, if_neg hj] at ej; exact ⟨_, ej⟩
    have ok : ∃ zs, ρ[k]? = some (.own zs) := by
      by_cases hk : i = k
      · subst hk; exact ⟨ds, hi⟩
      · rw [List.getElem?_set, if_neg hk] at ek; exact ⟨_, ek⟩
    obtain ⟨zs, oj⟩ := oj
    obtain ⟨zs', ok⟩ := ok
    exact s.dis j k zs zs' b hjk oj ok q1 q2
  · obtain ⟨d, e⟩ := hv p hp'
    have q := t p hp'
    exact keep p.1 p.2 q fun es' z => by rw [e] at z; cases z
/-- the temporary list of one's own at a is written -/
theorem SOk.writeT {ds es : List PyData} {a : Addr} {ys : List V} (h : SOk K B0 B ρ ((.ref a, .own ds) :: ts) σ H) (ap : Apart ρ ts σ a)
    (hd : ∀ H0, Nw B0 B H0 H → (∀ p ∈ (V.ref a, Sl.own ds) :: ts, SlOk K B H0 H p.1 p.2) → DqAll K H0 ys es) (hz : ys.length ≤ sizeLine) : SOk K B0 B ρ ((.ref a, .own es) :: ts) σ (upd H a (.lst ys)) := by
  obtain ⟨H0, n, s, t⟩ := h
  obtain ⟨b, xs, e2, hB, h0, hp, hl, hq⟩ := t (.ref a, .own ds) (by simp)
  cases e2
  have keep : ∀ (w : V) (sl : Sl), SlOk K B H0 H w sl → (∀ es', sl = .own es' → w ≠ .ref a) → SlOk K B H0 (upd H a (.lst ys)) w sl := fun w sl q ne => by
    cases sl with
    | no => trivial
    | val d => exact q
    | own es' =>
      obtain ⟨c, zs, e, hB', h0', hp', hl', hd'⟩ := q
      exact ⟨c, zs, e, hB', h0', by rw [upd_ne fun z => ne es' rfl (by rw [e, z])]; exact hp', hl', hd'⟩
  refine ⟨H0, n.write h0 hB, ⟨s.len, fun j sl e ne => ?_, s.dis⟩, fun p hp' => ?_⟩
  · obtain ⟨w, e1', q⟩ := s.at_ j sl e ne
    refine ⟨w, e1', keep w sl q fun es' z => ?_⟩
    subst z
    intro z
    subst z
    exact ap.1 j es' e e1'
  · rcases List.mem_cons.mp hp' with z | z
    · subst z
      exact ⟨a, ys, rfl, hB, h0, upd_same, hz, hd H0 n t⟩
    · exact keep p.1 p.2 (t p (List.mem_cons_of_mem _ z)) fun es' z' => ap.2 p z es' z'
end

/-! ### statements -/
inductive RS where
  | nx (ρ : Env)
  | ret (d : PyData)
  | brk (ρ : Env)
  | cnt (ρ : Env)
  | err (x : Str)
  | bad
def RS.goP (K : PySem.W.Frag) (mg : Str → Option Value) (E : XK) (B0 B : Hp) (ts : List (V × Sl)) (D : Ends) : RS → Prop
  | .nx ρ => ∀ σ H, SOk K B0 B ρ ts σ H → D.nx σ H
  | .ret d => ∀ v H0 H, Nw B0 B H0 H → Dq K H0 v d → D.rt v H
  | .brk ρ => ∀ σ H, SOk K B0 B ρ ts σ H → D.bk σ H
  | .cnt ρ => ∀ σ H, SOk K B0 B ρ ts σ H → D.ct σ H
  | .err x => Rz mg E B0 B x
  | .bad => False
structure RS.go (K : PySem.W.Frag) (mg : Str → Option Value) (E : XK) (B0 B : Hp) (ts : List (V × Sl)) (D : Ends) (r : RS) : Prop where
  out : r.goP K mg E B0 B ts D
def tS (K : PySem.W.Frag) (mg : Str → Option Value) (E : XK) (S : Env → RS) : TS := fun D σ H => ∃ B0 B ρ ts, SOk K B0 B ρ ts σ H ∧ AllVal ts ∧ (S ρ).go K mg E B0 B ts D
def ofR {α : Type} (r : Res α) (k : α → RS) : RS := match r with
  | .ok a => k a
  | .err x => .err x
  | .bad => .bad
section
variable {X : Cx} {K : PySem.W.Frag} {mg : Str → Option Value} {E : XK} {pos : Pos} {B0 B : Hp} {ts : List (V × Sl)} {D : Ends}
theorem ofR_go {α : Type} {r : Res α} {k : α → RS} (h : (ofR r k).go K mg E B0 B ts D) : r.go (fun a => (k a).go K mg E B0 B ts D) (Rz mg E B0 B) := by
  cases r with
  | ok a => exact ⟨h⟩
  | err x => exact ⟨h.out⟩
  | bad => exact ⟨h.out⟩
def sNil : Env → RS := fun ρ => .nx ρ
def sSeq (S T : Env → RS) : Env → RS := fun ρ => match S ρ with
  | .nx ρ' => T ρ'
  | .ret d => .ret d
  | .brk ρ' => .brk ρ'
  | .cnt ρ' => .cnt ρ'
  | .err x => .err x
  | .bad => .bad
theorem ss_nil : PSs X [] (tS K mg E sNil) := pss_weak pss_nil fun D σ H ⟨B0, B, ρ, ts, ok, _, q⟩ => q.out σ H ok
theorem ss_one {st : Stmt} {S : Env → RS} (h : PS X st (tS K mg E S)) : PSs X [st] (tS K mg E S) := pss_one h
theorem ss_cons {st : Stmt} {rest : List Stmt} {S T : Env → RS} (h1 : PS X st (tS K mg E S)) (h2 : PSs X rest (tS K mg E T)) : PSs X (st :: rest) (tS K mg E (sSeq S T)) :=
  pss_weak (pss_cons h1 h2) fun D σ H ⟨B0, B, ρ, ts, ok, av, q⟩ => ⟨B0, B, ρ, ts, ok, av, by
    have q := q.out
    unfold sSeq at q
    cases h : S ρ with
    | nx ρ' => rw [h] at q; exact ⟨fun σ' H' ok' => ⟨B0, B, ρ', ts, ok', av, ⟨q⟩⟩⟩
    | ret d => rw [h] at q; exact ⟨q⟩
    | brk ρ' => rw [h] at q; exact ⟨q⟩
    | cnt ρ' => rw [h] at q; exact ⟨q⟩
    | err x => rw [h] at q; exact ⟨q⟩
    | bad => rw [h] at q; exact ⟨q⟩⟩
def sIf (c : Env → Res Bool) (S T : Env → RS) : Env → RS := fun ρ => ofR (c ρ) fun b => if b = true then S ρ else T ρ
theorem s_if {c : Expr} {a b : List Stmt} {tc : Env → Res Bool} {S T : Env → RS} (hc : PT X c (tT K mg E tc)) (ha : PSs X a (tS K mg E S)) (hb : PSs X b (tS K mg E T)) : PS X (.If c a b pos) (tS K mg E (sIf tc S T)) :=
  ps_weak (ps_if hc ha hb) fun D σ H ⟨B0, B, ρ, ts, ok, av, q⟩ => ⟨B0, B, ρ, ts, ok, (ofR_go q).go_mono fun b k H' ok' => by
    cases b with
    | true =>
      show tS K mg E S D σ H'
      exact ⟨B0, B, ρ, ts, ok', av, k⟩
    | false =>
      show tS K mg E T D σ H'
      exact ⟨B0, B, ρ, ts, ok', av, k⟩⟩
def sRet (f : Env → Res PyData) : Env → RS := fun ρ => ofR (f ρ) .ret
theorem s_ret {e : Expr} {f : Env → Res PyData} (h : PE X e (tD K mg E f)) : PS X (.Return (some e) pos) (tS K mg E (sRet f)) :=
  ps_weak (ps_ret h) fun D σ H ⟨B0, B, ρ, ts, ok, av, q⟩ => ⟨B0, B, ρ, ts, ok, (ofR_go q).go_mono fun d k v H' ok' => by
    obtain ⟨H0, n, s, t⟩ := ok'
    exact k.out v H0 H' n (t (v, .val d) (by simp))⟩
def sRetN : Env → RS := fun _ => .ret .none
theorem s_retN : PS X (.Return none pos) (tS K mg E sRetN) := ps_weak ps_retN fun D σ H ⟨B0, B, ρ, ts, ok, av, q⟩ => by
  obtain ⟨H0, n, s, t⟩ := ok
  exact q.out .non H0 H n .non
/-- return of a list of one's own -/
def sRetO (i : Nat) : Env → RS := fun ρ => match ρ[i]? with
  | some (.own ds) => .ret (.list ds)
  | some (.val d) => .ret d
  | _ => .bad
theorem s_retO {i : Nat} {x : Str} {p : Pos} (hN : X.N[i]? = some x) (hv : Vis X.env.scope x) (hd : (x == ("__debug__" : Str)) = false := by decide) (hcd : (x == ("__classdict__" : Str)) = false := by decide) : PS X (.Return (some (.Name x p)) pos) (tS K mg E (sRetO i)) :=
  ps_weak (ps_ret (pe_var hN hv hd hcd)) fun D σ H ⟨B0, B, ρ, ts, ok, av, q⟩ => by
    have q := q.out
    unfold sRetO at q
    obtain ⟨H0, n, s, t⟩ := ok
    split at q
    · rename_i ds hρ
      obtain ⟨v, e1, a, xs, e2, hB, h0, hp, hl, hd⟩ := s.at_ i _ hρ (by simp)
      subst e2
      have ex : Ex H0 (upd H0 a (.lst xs)) := Ex.new h0
      exact ⟨.ref a, e1, q (.ref a) _ H (n.freeze h0 hB hp) (Dq.lst upd_same hl (hd.mono ex))⟩
    · rename_i d hρ
      obtain ⟨v, e1, q1⟩ := s.at_ i _ hρ (by simp)
      exact ⟨v, e1, q v H0 H n q1⟩
    · exact q.elim
def sExpr (f : Env → Res PyData) : Env → RS := fun ρ => ofR (f ρ) fun _ => .nx ρ
theorem s_expr {e : Expr} {f : Env → Res PyData} (h : PE X e (tD K mg E f)) (hs : swapsWith e none pos.line X.env = pure false := by rfl) : PS X (.Expr e pos) (tS K mg E (sExpr f)) :=
  ps_weak (ps_expr h hs) fun D σ H ⟨B0, B, ρ, ts, ok, av, q⟩ => ⟨B0, B, ρ, ts, ok, (ofR_go q).go_mono fun d k v H' ok' => k.out σ H' ok'.drop⟩
theorem s_pass : PS X (.Pass pos) (tS K mg E sNil) := ps_weak ps_pass fun D σ H ⟨B0, B, ρ, ts, ok, _, q⟩ => q.out σ H ok
def sSet (i : Nat) (f : Env → Res PyData) : Env → RS := fun ρ => ofR (f ρ) fun d => .nx (ρ.set i (.val d))
theorem s_set {i : Nat} {x : Str} {e : Expr} {f : Env → Res PyData} {pos' : Pos} (hN : X.N.Nodup) (hi : X.N[i]? = some x) (hx : Loc X.env.scope x) (h : PE X e (tD K mg E f)) (hs : swapsWith e (some (.Name x pos')) pos.line X.env = pure false := by rfl) (hf : X.fn x = true ∨ X.env.scope.names.lookup x = some .local := by first | exact .inl rfl | exact .inr rfl | assumption) :
    PS X (.Assign [.Name x pos'] e pos) (tS K mg E (sSet i f)) :=
  ps_weak (ps_set hN hi hx h hs hf) fun D σ H ⟨B0, B, ρ, ts, ok, av, q⟩ => ⟨B0, B, ρ, ts, ok, (ofR_go q).go_mono fun d k v H' ok' => k.out _ H' (ok'.set i)⟩
def sSetF (i : Nat) (f : Env → Res (List PyData)) : Env → RS := fun ρ => ofR (f ρ) fun ds => .nx (ρ.set i (.own ds))
theorem s_setF {i : Nat} {x : Str} {e : Expr} {f : Env → Res (List PyData)} {pos' : Pos} (hN : X.N.Nodup) (hi : X.N[i]? = some x) (hx : Loc X.env.scope x) (h : PE X e (tF K mg E f)) (hs : swapsWith e (some (.Name x pos')) pos.line X.env = pure false := by rfl) (hf : X.fn x = true ∨ X.env.scope.names.lookup x = some .local := by first | exact .inl rfl | exact .inr rfl | assumption) :
    PS X (.Assign [.Name x pos'] e pos) (tS K mg E (sSetF i f)) :=
  ps_weak (ps_set hN hi hx h hs hf) fun D σ H ⟨B0, B, ρ, ts, ok, av, q⟩ => ⟨B0, B, ρ, ts, ok, (ofR_go q).go_mono fun ds k a H' ok' ap => k.out _ H' (ok'.setOwn ap i)⟩

/-! ### targets -/
def tGD (K : PySem.W.Frag) (g : PyData → Env → Option Env) : TG := fun v σ H Q => ∃ B0 B ρ ts d ρ', SOk K B0 B ρ ((v, .val d) :: ts) σ H ∧ g d ρ = some ρ' ∧ ∀ σ', SOk K B0 B ρ' ts σ' H → Q σ' H
theorem pg_weak {tg : Expr} {t t' : TG} (h : PG X tg t) (w : ∀ v σ H Q, t' v σ H Q → t v σ H Q) : PG X tg t' := ⟨fun pins s σ H v u Q I r q => h.run pins s σ H v u Q I r (w v σ H Q q)⟩
def gN (i : Nat) : PyData → Env → Option Env := fun d ρ => some (ρ.set i (.val d))
def gN2 (i j : Nat) : PyData → Env → Option Env := fun d ρ => (two d).map fun p => (ρ.set i (.val p.1)).set j (.val p.2)
theorem gN2_of {i j : Nat} {d : PyData} {ρ ρ' : Env} (e : gN2 i j d ρ = some ρ') : ∃ p, two d = some p ∧ ρ' = (ρ.set i (.val p.1)).set j (.val p.2) := by
  unfold gN2 at e
  cases q : two d with
  | none => rw [q] at e; cases e
  | some p =>
    rw [q] at e
    exact ⟨p, rfl, (Option.some.inj e).symm⟩
theorem g_name {i : Nat} {x : Str} (hN : X.N.Nodup) (hi : X.N[i]? = some x) (hx : Loc X.env.scope x) (hf : X.fn x = true ∨ X.env.scope.names.lookup x = some .local := by first | exact .inl rfl | exact .inr rfl | assumption) : PG X (.Name x pos) (tGD K (gN i)) :=
  pg_weak (pg_name hN hi hx hf) fun v σ H Q ⟨B0, B, ρ, ts, d, ρ', ok, e, q⟩ => by
    cases e
    exact q _ (ok.set i)
theorem g_pair {i j : Nat} {x y : Str} {p1 p2 : Pos} {kk : Nat} (hc : X.calm = true) (h1 : PG X (.Name x p1) (gName i)) (h2 : PG X (.Name y p2) (gName j)) : PG X (.Tuple [.Name x p1, .Name y p2] kk pos) (tGD X.K (gN2 i j)) :=
  pg_weak (pg_tup (n := 2) hc (pgs_cons h1 (pgs_cons h2 pgs_nil))) fun v σ H Q ⟨B0, B, ρ, ts, d, ρ', ok, e, q⟩ => by
    obtain ⟨⟨dx, dy⟩, e1, e2⟩ := gN2_of e
    subst e2
    obtain ⟨H0, n, s, t⟩ := id ok
    obtain ⟨a, vx, vy, ev, sq, r1, r2⟩ := two_at (show Dq X.K H0 v d from t (v, .val d) (by simp)) e1
    refine ⟨a, [vx, vy], ev, sq H n.b, rfl, vx, [vy], rfl, vy, [], rfl, rfl, q _ ?_⟩
    have t' : ∀ p ∈ ts, SlOk X.K B H0 H p.1 p.2 := fun p hp => t p (List.mem_cons_of_mem _ hp)
    have o1 : SOk X.K B0 B ρ ((vx, .val dx) :: (vy, .val dy) :: ts) σ H := ⟨H0, n, s, fun p hp => by
      rcases List.mem_cons.mp hp with z | z
      · subst z; exact r1
      · rcases List.mem_cons.mp z with z | z
        · subst z; exact r2
        · exact t' p z⟩
    exact (o1.set i).set j
/-- target = e -/
def sAsg (g : PyData → Env → Option Env) (f : Env → Res PyData) : Env → RS := fun ρ => ofR (f ρ) fun d => match g d ρ with
  | some ρ' => .nx ρ'
  | none => .bad
theorem s_asg {tg e : Expr} {f : Env → Res PyData} {g : PyData → Env → Option Env} (he : PE X e (tD K mg E f)) (hg : PG X tg (tGD K g)) (hs : swapsWithSole [tg] e pos.line X.env = pure false := by rfl) (hw : swappedStores [tg] e X.env = pure none := by rfl)
    (h1 : (assignEach [tg] X.env).map (·.2) = [assign tg X.env] := by rfl) : PS X (.Assign [tg] e pos) (tS K mg E (sAsg g f)) :=
  ps_weak (ps_asg he hg hs hw h1) fun D σ H ⟨B0, B, ρ, ts, ok, av, q⟩ => ⟨B0, B, ρ, ts, ok, (ofR_go q).go_mono fun d k v H' ok' => by
    cases h : g d ρ with
    | none =>
      rw [h] at k
      exact k.out.elim
    | some ρ' =>
      rw [h] at k
      exact ⟨B0, B, ρ, ts, d, ρ', ok', h, fun σ' ok2 => k.out σ' H' ok2⟩⟩
/-- a, b = x, y -/
def sPar (i j : Nat) (f : Env → Res (List PyData)) : Env → RS := fun ρ => ofR (f ρ) fun ds => match ds with
  | [x, y] => .nx ((ρ.set i (.val x)).set j (.val y))
  | _ => .bad
theorem s_par {i j : Nat} {x y : Str} {a b : Expr} {f : Env → Res (List PyData)} {px py pt : Pos} {kt k2 pt2} (hc : X.calm = true) (hN : X.N.Nodup) (hi : X.N[i]? = some x) (hj : X.N[j]? = some y) (hij : i ≠ j)
    (hx : X.env.scope.names.lookup x = some .local) (hy : X.env.scope.names.lookup y = some .local) (ha : PA X [a, b] (tA K mg E f))
    (hw : swappedStores [.Tuple [.Name x px, .Name y py] kt pt] (.Tuple [a, b] k2 pt2) X.env = pure (some [x, y]))
    (hs : swapsWithSole [.Tuple [.Name x px, .Name y py] kt pt] (.Tuple [a, b] k2 pt2) pos.line X.env = pure false := by rfl) :
    PS X (.Assign [.Tuple [.Name x px, .Name y py] kt pt] (.Tuple [a, b] k2 pt2) pos) (tS K mg E (sPar i j f)) :=
  ps_weak (ps_par hc hN hi hj hij hx hy ha hw hs) fun D σ H ⟨B0, B, ρ, ts, ok, av, q⟩ => ⟨B0, B, ρ, ts, ok, (ofR_go q).go_mono fun ds k vs H' hl ok' => by
    cases ds with
    | nil => exact k.out.elim
    | cons dx ds =>
      cases ds with
      | nil => exact k.out.elim
      | cons dy ds =>
        cases ds with
        | cons _ _ => exact k.out.elim
        | nil =>
          cases vs with
          | nil => cases hl
          | cons vx vs =>
            cases vs with
            | nil => cases hl
            | cons vy vs =>
              cases vs with
              | cons _ _ => simp at hl
              | nil => exact ⟨vx, vy, rfl, k.out _ H' ((SOk.set (ts := (vy, .val dy) :: ts) ok' i).set j)⟩⟩
end
end DL

namespace DL
open PySem L2

/-! ### what is walked -/
structure Iter (K : PySem.W.Frag) (B0 B : Hp) (tm : List (V × Sl)) (J : It) (ds : List PyData) : Prop where
  go : ∀ (i : Nat) (d : PyData) (ρ : Env) (ts : List (V × Sl)) (σ : St) (H : Hp), ds[i]? = some d → SOk K B0 B ρ (tm ++ ts) σ H → J.go i H ∧ ∀ x H', J.yld i H x H' → SOk K B0 B ρ ((x, .val d) :: (tm ++ ts)) σ H'
  stop : ∀ (i : Nat) (ρ : Env) (ts : List (V × Sl)) (σ : St) (H : Hp), ds.length ≤ i → SOk K B0 B ρ (tm ++ ts) σ H → J.stop i H
  len : ds.length ≤ sizeLine
def tI (K : PySem.W.Frag) (mg : Str → Option Value) (E : XK) (b : Bool) (f : Env → Res (List PyData)) : TI := fun σ H R => ∃ B0 B ρ ts, SOk K B0 B ρ ts σ H ∧
  (f ρ).go (fun ds => ∀ J H' tm, SOk K B0 B ρ (tm ++ ts) σ H' → (b = true → AllVal tm) → (∀ C0 C, Iter K C0 C tm J ds) → R J H') (Rz mg E B0 B)
section
variable {X : Cx} {K : PySem.W.Frag} {mg : Str → Option Value} {E : XK} {pos : Pos} {tg e : Expr}
theorem pi_weak {w w' : TI} (h : PI X tg e w) (k : ∀ σ H R, w' σ H R → w σ H R) : PI X tg e w' := ⟨fun pins s σ H R I q => h.run pins s σ H R I (k σ H R q)⟩
theorem pi_or {w w' : TI} (h : PI X tg e w) (h' : PI X tg e w') : PI X tg e (fun σ H R => w σ H R ∨ w' σ H R) := ⟨fun pins s σ H R I q => by
  rcases q with q | q
  · exact h.run pins s σ H R I q
  · exact h'.run pins s σ H R I q⟩
/-- the items of a list or a tuple -/
def seqD : PyData → Res (List PyData)
  | .list xs => .ok xs
  | .tuple xs => .ok xs
  | _ => .bad
theorem iter_list {B0 B H : Hp} {a : Addr} {s : Sl} {xs : List PyData} (e : dat s = .list xs) (hl : xs.length ≤ sizeLine) : Iter K B0 B [(.ref a, s)] (Itl K a) xs where
  go := fun i d ρ ts σ H hi ok => by
    obtain ⟨H0, n, sl, t⟩ := id ok
    have hx : SlOk K B H0 H (.ref a) s := t (.ref a, s) (by simp)
    obtain ⟨b, us, eb, hb, lb, db⟩ := hx.lst n.b e
    cases eb
    obtain ⟨v, hv, dv⟩ := db.get hi
    refine ⟨⟨us, v, SqL.of hb, hv⟩, fun x H' ⟨eH, hy⟩ => ?_⟩
    subst eH
    have q := hy us (SqL.of hb)
    rw [hv] at q
    cases q
    exact mk_val n sl t dv
  stop := fun i ρ ts σ H hi ok => by
    obtain ⟨H0, n, sl, t⟩ := id ok
    have hx : SlOk K B H0 H (.ref a) s := t (.ref a, s) (by simp)
    obtain ⟨b, us, eb, hb, lb, db⟩ := hx.lst n.b e
    cases eb
    exact ⟨us, SqL.of hb, by rw [db.length]; exact hi⟩
  len := hl
theorem iter_tup {B0 B H : Hp} {a : Addr} {s : Sl} {xs : List PyData} (e : dat s = .tuple xs) (hl : xs.length ≤ sizeLine) : Iter K B0 B [(.ref a, s)] (Itt K a) xs where
  go := fun i d ρ ts σ H hi ok => by
    obtain ⟨H0, n, sl, t⟩ := id ok
    have hx : SlOk K B H0 H (.ref a) s := t (.ref a, s) (by simp)
    obtain ⟨b, us, eb, hb, lb, db⟩ := hx.tup n.b e
    cases eb
    obtain ⟨v, hv, dv⟩ := db.get hi
    refine ⟨⟨us, v, hb.sq, hv⟩, fun x H' ⟨eH, hy⟩ => ?_⟩
    subst eH
    have q := hy us (hb.sq)
    rw [hv] at q
    cases q
    exact mk_val n sl t dv
  stop := fun i ρ ts σ H hi ok => by
    obtain ⟨H0, n, sl, t⟩ := id ok
    have hx : SlOk K B H0 H (.ref a) s := t (.ref a, s) (by simp)
    obtain ⟨b, us, eb, hb, lb, db⟩ := hx.tup n.b e
    cases eb
    exact ⟨us, hb.sq, by rw [db.length]; exact hi⟩
  len := hl
def iSeq (f : Env → Res PyData) : Env → Res (List PyData) := fun ρ => (f ρ).bind seqD
theorem seq_go {B0 B : Hp} {ρ : Env} {ts : List (V × Sl)} {σ : St} {H1 : Hp} {v : V} {s : Sl} {R : It → Hp → Prop} {b : Bool} (ok1 : SOk X.K B0 B ρ ((v, s) :: ts) σ H1) (hb : b = true → ∃ d, s = .val d)
    (k : (seqD (dat s)).go (fun ds => ∀ J H' tm, SOk X.K B0 B ρ (tm ++ ts) σ H' → (b = true → AllVal tm) → (∀ C0 C, Iter X.K C0 C tm J ds) → R J H') (Rz mg E B0 B)) :
    (∃ a, v = .ref a ∧ (∃ xs, SqL X.K H1 a xs) ∧ R (Itl X.K a) H1) ∨ ∃ a, v = .ref a ∧ (∃ xs, SqT X.K H1 a xs) ∧ R (Itt X.K a) H1 := by
  obtain ⟨H0, n, sl, t⟩ := id ok1
  have hx : SlOk X.K B H0 H1 v s := t (v, s) (by simp)
  have av : ∀ a, b = true → AllVal [((V.ref a : V), s)] := fun a h p hp => by
    rw [List.mem_singleton.mp hp]
    exact hb h
  generalize ex : dat s = dx at k
  cases dx with
  | list xs =>
    obtain ⟨a, us, ea, ha, la, da⟩ := hx.lst n.b ex
    subst ea
    exact .inl ⟨a, rfl, ⟨us, SqL.of ha⟩, k.ok _ H1 [(.ref a, s)] ok1 (av a) (fun _ _ => iter_list (H := H1) ex (by rw [← da.length]; exact la))⟩
  | tuple xs =>
    obtain ⟨a, us, ea, ha, la, da⟩ := hx.tup n.b ex
    subst ea
    exact .inr ⟨a, rfl, ⟨us, ha.sq⟩, k.ok _ H1 [(.ref a, s)] ok1 (av a) (fun _ _ => iter_tup (H := H1) ex (by rw [← da.length]; exact la))⟩
  | _ => exact k.bad
theorem pi_seq {te : TE} (h : PE X e te) : PI X tg e (fun σ H R => te σ H fun x H1 => (∃ a, x = .ref a ∧ (∃ xs, SqL X.K H1 a xs) ∧ R (Itl X.K a) H1) ∨ ∃ a, x = .ref a ∧ (∃ xs, SqT X.K H1 a xs) ∧ R (Itt X.K a) H1) := by
  refine ⟨fun pins s σ H R I hq => ?_⟩
  refine thn (h.run pins s σ H _ I hq) fun v s1 ⟨x, H1, I1, r1, q1⟩ => ?_
  rcases q1 with ⟨a, ex, ⟨xs, hx⟩, q⟩ | ⟨a, ex, ⟨xs, hx⟩, q⟩
  · subst ex
    cases r1
    obtain ⟨its, rv, p, hz⟩ := I1.list hx
    refine wpAny_pyIter_list p.isList ?_
    refine ⟨s1.heap.objs.size, [s1.heap.objs.size], _, _, H1, rfl, I1.kept (t' := s1.toks) fun b o e => Heap.get?_push_of_some _ e, turn_list a _, ⟨_, Heap.get?_push_size _ rfl, rfl, rfl⟩, fun b hb => ?_, q⟩
    have e : b = s1.heap.objs.size := by simpa using hb
    subst e
    exact I1.fpOk (Nat.le_refl _) (I1.hok.fresh (Nat.le_refl _))
  · subst ex
    cases r1
    obtain ⟨its, rv, p, hz⟩ := I1.tuple hx
    refine wpAny_pyIter_tuple (show s1.heap.IsTuple a its.toArray from p) ?_
    refine ⟨s1.heap.objs.size, [s1.heap.objs.size], _, _, H1, rfl, I1.kept (t' := s1.toks) fun b o e => Heap.get?_push_of_some _ e, turn_tuple a _, ⟨_, Heap.get?_push_size _ rfl, rfl, rfl⟩, fun b hb => ?_, q⟩
    have e : b = s1.heap.objs.size := by simpa using hb
    subst e
    exact I1.fpOk (Nat.le_refl _) (I1.hok.fresh (Nat.le_refl _))
/-- over a frozen value; over one that may be one's own -/
theorem i_seq {f : Env → Res PyData} (h : PE X e (tD X.K mg E f)) : PI X tg e (tI X.K mg E true (iSeq f)) := pi_weak (pi_seq h) fun σ H R ⟨B0, B, ρ, ts, ok, q⟩ =>
  ⟨B0, B, ρ, ts, ok, q.go_bind.go_mono fun d k v H1 ok1 => seq_go (b := true) ok1 (fun _ => ⟨d, rfl⟩) k⟩
theorem i_seqS {f : Env → Res PyData} (h : PE X e (tSh X.K mg E f)) : PI X tg e (tI X.K mg E false (iSeq f)) := pi_weak (pi_seq h) fun σ H R ⟨B0, B, ρ, ts, ok, q⟩ =>
  ⟨B0, B, ρ, ts, ok, q.go_bind.go_mono fun d k v s H1 ne e ok1 => by
    subst e
    exact seq_go (b := false) ok1 (fun z => nomatch z) k⟩
theorem i_any {f : Env → Res (List PyData)} {b : Bool} (h : PI X tg e (tI K mg E true f)) : PI X tg e (tI K mg E b f) := pi_weak h fun σ H R ⟨B0, B, ρ, ts, ok, q⟩ =>
  ⟨B0, B, ρ, ts, ok, q.go_mono fun ds k J H' tm o av it => k J H' tm o (fun _ => av rfl) it⟩
/-- range -/
def rngD (lo hi : Int) : Res (List PyData) := if -(2 ^ 62) ≤ lo ∧ lo < 2 ^ 62 ∧ -(2 ^ 62) ≤ hi ∧ hi < 2 ^ 62 ∧ (hi - lo).toNat ≤ sizeLine then .ok ((List.range (hi - lo).toNat).map fun (i : Nat) => .int (lo + (i : Int))) else .bad
def rng1D : List PyData → Res (List PyData)
  | [.int j] => rngD 0 j
  | _ => .bad
def rng2D : List PyData → Res (List PyData)
  | [.int i, .int j] => rngD i j
  | _ => .bad
theorem iter_rng {B0 B : Hp} {lo : Int} {n : Nat} (hn : n ≤ sizeLine) : Iter K B0 B [] (Itr lo n) ((List.range n).map fun (i : Nat) => PyData.int (lo + (i : Int))) where
  go := fun i d ρ ts σ H hi ok => by
    rw [List.getElem?_map] at hi
    cases q : (List.range n)[i]? with
    | none => rw [q] at hi; cases hi
    | some j =>
      rw [q] at hi
      obtain ⟨h1, h2⟩ := List.getElem?_eq_some_iff.mp q
      rw [List.getElem_range] at h2
      rw [List.length_range] at h1
      subst h2
      have hi : PyData.int (lo + (i : Int)) = d := Option.some.inj hi
      subst hi
      exact ⟨h1, fun x H' ⟨e1, e2⟩ => by subst e1 e2; exact ok.int⟩
  stop := fun i ρ ts σ H hi ok => by
    rw [List.length_map, List.length_range] at hi
    exact hi
  len := by rw [List.length_map, List.length_range]; exact hn
theorem rngD_go {lo hi : Int} {P : List PyData → Prop} {R : Str → Prop} (h : (rngD lo hi).go P R) : (-(2 ^ 62) ≤ lo ∧ lo < 2 ^ 62 ∧ -(2 ^ 62) ≤ hi ∧ hi < 2 ^ 62 ∧ (hi - lo).toNat ≤ sizeLine) ∧ P ((List.range (hi - lo).toNat).map fun (i : Nat) => .int (lo + (i : Int))) := by
  unfold rngD at h
  split at h
  · rename_i q; exact ⟨q, h.ok⟩
  · exact h.bad
def iRng1D (f : Env → Res (List PyData)) : Env → Res (List PyData) := fun ρ => (f ρ).bind rng1D
def iRng2D (f : Env → Res (List PyData)) : Env → Res (List PyData) := fun ρ => (f ρ).bind rng2D
theorem i_rng1 {a : Expr} {f : Env → Res (List PyData)} {p : Pos} {b : Bool} (hg : Gl X "range") (hm : X.mg "range" = none) (ha : PA X [a] (tA K mg E f)) (hs : starEach [a] X.env = [(false, eval a X.env)] := by rfl) : PI X tg (.Call (.Name "range" p) [a] [] pos) (tI K mg E b (iRng1D f)) :=
  pi_weak (pi_range1 hg hm ha hs) fun σ H R ⟨B0, B, ρ, ts, ok, q⟩ => ⟨B0, B, ρ, ts, ok, q.go_bind.go_mono fun ds k vs H' hl ok' => by
    unfold rng1D at k
    split at k
    · rename_i j
      obtain ⟨⟨h1, h2, h3, h4, h5⟩, k⟩ := rngD_go k
      cases vs with
      | nil => cases hl
      | cons v vs =>
        cases vs with
        | cons _ _ => simp at hl
        | nil =>
          obtain ⟨H0, n, s, t⟩ := id ok'
          have z : SlOk K B H0 H' v (.val (.int j)) := t (v, .val (.int j)) (by simp)
          refine ⟨j, by rw [z.int rfl], h3, h4, ?_⟩
          have e : (j - 0).toNat = j.toNat := by rw [Int.sub_zero]
          rw [e] at k h5
          exact k _ H' [] (ok'.sub fun p hp => by simp at hp ⊢; exact .inr hp) (fun _ p hp => nomatch hp) (fun _ _ => iter_rng h5)
    · exact k.bad⟩
theorem i_rng2 {a c : Expr} {f : Env → Res (List PyData)} {p : Pos} {b : Bool} (hg : Gl X "range") (hm : X.mg "range" = none) (ha : PA X [a, c] (tA K mg E f)) (hs : starEach [a, c] X.env = [(false, eval a X.env), (false, eval c X.env)] := by rfl) (hs2 : starEach [c] X.env = [(false, eval c X.env)] := by rfl) : PI X tg (.Call (.Name "range" p) [a, c] [] pos) (tI K mg E b (iRng2D f)) :=
  pi_weak (pi_range2 hg hm ha hs hs2) fun σ H R ⟨B0, B, ρ, ts, ok, q⟩ => ⟨B0, B, ρ, ts, ok, q.go_bind.go_mono fun ds k vs H' hl ok' => by
    unfold rng2D at k
    split at k
    · rename_i i j
      obtain ⟨⟨h1, h2, h3, h4, h5⟩, k⟩ := rngD_go k
      cases vs with
      | nil => cases hl
      | cons v vs =>
        cases vs with
        | nil => cases hl
        | cons w vs =>
          cases vs with
          | cons _ _ => simp at hl
          | nil =>
            obtain ⟨H0, n, s, t⟩ := id ok'
            have z : SlOk K B H0 H' v (.val (.int i)) := t (v, .val (.int i)) (by simp)
            have z2 : SlOk K B H0 H' w (.val (.int j)) := t (w, .val (.int j)) (by simp)
            exact ⟨i, j, by rw [z.int rfl, z2.int rfl], ⟨h1, h2, h3, h4⟩, k _ H' [] (ok'.sub fun p hp => by simp at hp ⊢; exact .inr (.inr hp)) (fun _ p hp => nomatch hp) (fun _ _ => iter_rng h5)⟩
    · exact k.bad⟩
/-- zip -/
def zipD : List PyData → Res (List PyData)
  | [.list xs, .list ys] => .ok (List.zipWith pr2 xs ys)
  | [.tuple xs, .tuple ys] => .ok (List.zipWith pr2 xs ys)
  | _ => .bad
theorem zip_at {xs ys : List PyData} {i : Nat} {d : PyData} (h : (List.zipWith pr2 xs ys)[i]? = some d) : ∃ x y, xs[i]? = some x ∧ ys[i]? = some y ∧ d = pr2 x y := by
  rw [List.getElem?_zipWith] at h
  cases h1 : xs[i]? with
  | none => rw [h1] at h; cases h
  | some x =>
    cases h2 : ys[i]? with
    | none => rw [h1, h2] at h; cases h
    | some y =>
      rw [h1, h2] at h
      exact ⟨x, y, rfl, rfl, (Option.some.inj h).symm⟩
/-- a new pair of two frozen items -/
theorem mk_pair {B0 B H0 H : Hp} {ρ : Env} {ts : List (V × Sl)} {σ : St} {v w : V} {x y : PyData} {T : Addr} (n : Nw B0 B H0 H) (s : Slots K B H0 H σ ρ) (t : ∀ p ∈ ts, SlOk K B H0 H p.1 p.2) (hx : Dq K H0 v x) (hy : Dq K H0 w y) (hT : H T = none) :
    SOk K B0 B ρ ((.ref T, .val (pr2 x y)) :: ts) σ (upd H T (.tup [v, w])) := by
  have al : Nw H0 H (upd H0 T (.tup [v, w])) (upd H T (.tup [v, w])) := (Nw.refl n.b).alloc hT
  refine ⟨_, n.trans al, s.grow al, fun q hq => ?_⟩
  rcases List.mem_cons.mp hq with z | z
  · subst z; exact Dq.pair upd_same (hx.mono al.a) (hy.mono al.a)
  · exact (t q z).grow al
theorem iter_zipL {B0 B H : Hp} {a b : Addr} {s s2 : Sl} {xs ys : List PyData} (e1 : dat s = .list xs) (e2 : dat s2 = .list ys) (hl : xs.length ≤ sizeLine) : Iter K B0 B [(.ref a, s), (.ref b, s2)] (Itz K a b) (List.zipWith pr2 xs ys) where
  go := fun i d ρ ts σ H hi ok => by
    obtain ⟨H0, n, sl, t⟩ := id ok
    have hx : SlOk K B H0 H (.ref a) s := t (.ref a, s) (by simp)
    have hy : SlOk K B H0 H (.ref b) s2 := t (.ref b, s2) (by simp)
    obtain ⟨_, us, eb, hb, lb, db⟩ := hx.lst n.b e1
    cases eb
    obtain ⟨_, ws, eb, hb2, lb2, db2⟩ := hy.lst n.b e2
    cases eb
    obtain ⟨dx, dy, h1, h2, rfl⟩ := zip_at hi
    obtain ⟨v, hv, dv⟩ := db.get h1
    obtain ⟨w, hw, dw⟩ := db2.get h2
    refine ⟨⟨us, ws, v, w, SqL.of hb, SqL.of hb2, hv, hw⟩, fun x H' ⟨T, x', y', ex, hT, eH, q1, q2⟩ => ?_⟩
    subst ex eH
    have q1 := q1 us (SqL.of hb)
    have q2 := q2 ws (SqL.of hb2)
    rw [hv] at q1
    rw [hw] at q2
    cases q1
    cases q2
    exact mk_pair n sl t dv dw hT
  stop := fun i ρ ts σ H hi ok => by
    obtain ⟨H0, n, sl, t⟩ := id ok
    have hx : SlOk K B H0 H (.ref a) s := t (.ref a, s) (by simp)
    have hy : SlOk K B H0 H (.ref b) s2 := t (.ref b, s2) (by simp)
    obtain ⟨_, us, eb, hb, lb, db⟩ := hx.lst n.b e1
    cases eb
    obtain ⟨_, ws, eb, hb2, lb2, db2⟩ := hy.lst n.b e2
    cases eb
    refine ⟨us, ws, SqL.of hb, SqL.of hb2, ?_⟩
    rw [List.length_zipWith] at hi
    rw [db.length, db2.length]
    omega
  len := by rw [List.length_zipWith]; omega
theorem iter_zipT {B0 B H : Hp} {a b : Addr} {s s2 : Sl} {xs ys : List PyData} (e1 : dat s = .tuple xs) (e2 : dat s2 = .tuple ys) (hl : xs.length ≤ sizeLine) : Iter K B0 B [(.ref a, s), (.ref b, s2)] (RZ.ItzT K a b) (List.zipWith pr2 xs ys) where
  go := fun i d ρ ts σ H hi ok => by
    obtain ⟨H0, n, sl, t⟩ := id ok
    have hx : SlOk K B H0 H (.ref a) s := t (.ref a, s) (by simp)
    have hy : SlOk K B H0 H (.ref b) s2 := t (.ref b, s2) (by simp)
    obtain ⟨_, us, eb, hb, lb, db⟩ := hx.tup n.b e1
    cases eb
    obtain ⟨_, ws, eb, hb2, lb2, db2⟩ := hy.tup n.b e2
    cases eb
    obtain ⟨dx, dy, h1, h2, rfl⟩ := zip_at hi
    obtain ⟨v, hv, dv⟩ := db.get h1
    obtain ⟨w, hw, dw⟩ := db2.get h2
    refine ⟨⟨us, ws, v, w, hb.sq, hb2.sq, hv, hw⟩, fun x H' ⟨T, x', y', ex, hT, eH, q1, q2⟩ => ?_⟩
    subst ex eH
    have q1 := q1 us (hb.sq)
    have q2 := q2 ws (hb2.sq)
    rw [hv] at q1
    rw [hw] at q2
    cases q1
    cases q2
    exact mk_pair n sl t dv dw hT
  stop := fun i ρ ts σ H hi ok => by
    obtain ⟨H0, n, sl, t⟩ := id ok
    have hx : SlOk K B H0 H (.ref a) s := t (.ref a, s) (by simp)
    have hy : SlOk K B H0 H (.ref b) s2 := t (.ref b, s2) (by simp)
    obtain ⟨_, us, eb, hb, lb, db⟩ := hx.tup n.b e1
    cases eb
    obtain ⟨_, ws, eb, hb2, lb2, db2⟩ := hy.tup n.b e2
    cases eb
    refine ⟨us, ws, hb.sq, hb2.sq, ?_⟩
    rw [List.length_zipWith] at hi
    rw [db.length, db2.length]
    omega
  len := by rw [List.length_zipWith]; omega
def iZipD (f : Env → Res (List PyData)) : Env → Res (List PyData) := fun ρ => (f ρ).bind zipD
theorem i_zip {a c : Expr} {f : Env → Res (List PyData)} {p tpos : Pos} {elts : List Expr} {kk : Nat} {b : Bool} (hg : Gl X "zip") (hm : X.mg "zip" = none) (ha : PA X [a, c] (tA X.K mg E f))
    (hs : starEach [a, c] X.env = (false, eval a X.env) :: starEach [c] X.env := by rfl) (hpl : (backTo pos (starEach [c] X.env)).any (·.1) = false := by rfl) :
    PI X (.Tuple elts kk tpos) (.Call (.Name "zip" p) [a, c] [] pos) (tI X.K mg E b (iZipD f)) :=
  pi_weak (RZ.pi_zipA hg hm ha hs hpl) fun σ H R ⟨B0, B, ρ, ts, ok, q⟩ => ⟨B0, B, ρ, ts, ok, q.go_bind.go_mono fun ds k vs H' hl ok' => by
    unfold zipD at k
    split at k
    · rename_i xs ys
      cases vs with
      | nil => cases hl
      | cons v vs =>
        cases vs with
        | nil => cases hl
        | cons w vs =>
          cases vs with
          | cons _ _ => simp at hl
          | nil =>
            obtain ⟨H0, n, s, t⟩ := id ok'
            have z : SlOk X.K B H0 H' v (.val (.list xs)) := t (v, .val (.list xs)) (by simp)
            have z2 : SlOk X.K B H0 H' w (.val (.list ys)) := t (w, .val (.list ys)) (by simp)
            obtain ⟨a, us, ea, ha, la, da⟩ := z.lst n.b rfl
            obtain ⟨b', ws, eb, hb, lb, db⟩ := z2.lst n.b rfl
            subst ea eb
            refine ⟨a, b', us, ws, rfl, .inl ⟨SqL.of ha, SqL.of hb, k.ok _ H' [(.ref a, .val (.list xs)), (.ref b', .val (.list ys))] ok' (fun _ p hp => ?_) (fun _ _ => iter_zipL (H := H') rfl rfl (by rw [← da.length]; exact la))⟩⟩
            simp at hp
            rcases hp with z | z <;> exact ⟨_, by rw [z]⟩
    · rename_i xs ys
      cases vs with
      | nil => cases hl
      | cons v vs =>
        cases vs with
        | nil => cases hl
        | cons w vs =>
          cases vs with
          | cons _ _ => simp at hl
          | nil =>
            obtain ⟨H0, n, s, t⟩ := id ok'
            have z : SlOk X.K B H0 H' v (.val (.tuple xs)) := t (v, .val (.tuple xs)) (by simp)
            have z2 : SlOk X.K B H0 H' w (.val (.tuple ys)) := t (w, .val (.tuple ys)) (by simp)
            obtain ⟨a, us, ea, ha, la, da⟩ := z.tup n.b rfl
            obtain ⟨b', ws, eb, hb, lb, db⟩ := z2.tup n.b rfl
            subst ea eb
            refine ⟨a, b', us, ws, rfl, .inr ⟨ha.sq, hb.sq, k.ok _ H' [(.ref a, .val (.tuple xs)), (.ref b', .val (.tuple ys))] ok' (fun _ p hp => ?_) (fun _ _ => iter_zipT (H := H') rfl rfl (by rw [← da.length]; exact la))⟩⟩
            simp at hp
            rcases hp with z | z <;> exact ⟨_, by rw [z]⟩
    · exact k.bad⟩

/-! ### for -/
def loop (g : PyData → Env → Option Env) (S : Env → RS) : List PyData → Env → RS
  | [], ρ => .nx ρ
  | d :: ds, ρ => match g d ρ with
    | none => .bad
    | some ρ1 => match S ρ1 with
      | .nx ρ' => loop g S ds ρ'
      | .cnt ρ' => loop g S ds ρ'
      | .brk ρ' => .nx ρ'
      | .ret d => .ret d
      | .err x => .err x
      | .bad => .bad
def sFor (it : Env → Res (List PyData)) (g : PyData → Env → Option Env) (S : Env → RS) : Env → RS := fun ρ => ofR (it ρ) fun ds => loop g S ds ρ
theorem s_for {iter : Expr} {body : List Stmt} {it : Env → Res (List PyData)} {g : PyData → Env → Option Env} {S : Env → RS} (hp : PassesOwn (model X.prog X.w) X.A X.env X.xe) (hc : X.calm = true) (hi : PI X tg iter (tI K mg E true it)) (hg : PG X tg (tGD K g)) (hb : PSs X body (tS K mg E S))
    (hs : ∀ x, foldedSetIterable iter X.env x = pure x := by intro _; rfl) : PS X (.For tg iter body [] pos) (tS K mg E (sFor it g S)) :=
  ps_weak (ps_for hp hc hi hg hb hs) fun D σ H ⟨B0, B, ρ, ts, ok, av, q⟩ => ⟨B0, B, ρ, ts, ok, (ofR_go q).go_mono fun ds k J H1 tm ok1 avt itg => by
    have it := itg B0 B
    refine ⟨fun i m σ H => ∃ ρ', m = ds.length - i ∧ i ≤ ds.length ∧ SOk K B0 B ρ' (tm ++ ts) σ H ∧ (loop g S (ds.drop i) ρ').go K mg E B0 B ts D, ⟨ds.length, ρ, by simp, Nat.zero_le _, ok1, by rw [List.drop_zero]; exact k⟩, ?_⟩
    rintro i m σ H ⟨ρ', rfl, hi, ok2, k2⟩
    by_cases hlt : i < ds.length
    · have e : ds.drop i = ds[i] :: ds.drop (i + 1) := List.drop_eq_getElem_cons hlt
      obtain ⟨g1, g2⟩ := it.go i ds[i] ρ' ts σ H (by simp [hlt]) ok2
      refine .inr ⟨g1, fun σ' H' => ∃ ρ'', SOk K B0 B ρ'' (tm ++ ts) σ' H' ∧ (loop g S (ds.drop (i + 1)) ρ'').go K mg E B0 B ts D, fun σ' H' ⟨ρ'', o, kk⟩ => ⟨ds.length - (i + 1), by omega, ρ'', rfl, hlt, o, kk⟩, fun x H' y => ?_⟩
      have ok3 := g2 x H' y
      have k2 := k2.out
      rw [e] at k2
      unfold loop at k2
      cases hgd : g ds[i] ρ' with
      | none => rw [hgd] at k2; exact k2.elim
      | some ρ1 =>
        rw [hgd] at k2
        refine ⟨B0, B, ρ', tm ++ ts, ds[i], ρ1, ok3, hgd, fun σ2 ok4 => ?_⟩
        refine ⟨B0, B, ρ1, tm ++ ts, ok4, fun p hp => ?_, ?_⟩
        · rcases List.mem_append.mp hp with z | z
          · exact avt rfl p z
          · exact av p z
        · have sub : ∀ {ρ2 : Env} {σ2 : St} {H2 : Hp}, SOk K B0 B ρ2 (tm ++ ts) σ2 H2 → SOk K B0 B ρ2 ts σ2 H2 := fun o => o.sub fun p hp => List.mem_append_right _ hp
          have k2 : RS.goP K mg E B0 B ts D (match S ρ1 with
            | .nx ρ' => loop g S (ds.drop (i + 1)) ρ'
            | .cnt ρ' => loop g S (ds.drop (i + 1)) ρ'
            | .brk ρ' => .nx ρ'
            | .ret d => .ret d
            | .err x => .err x
            | .bad => .bad) := k2
          cases hS : S ρ1 with
          | nx ρ2 => rw [hS] at k2; exact ⟨fun σ3 H3 o => ⟨ρ2, o, ⟨k2⟩⟩⟩
          | cnt ρ2 => rw [hS] at k2; exact ⟨fun σ3 H3 o => ⟨ρ2, o, ⟨k2⟩⟩⟩
          | brk ρ2 => rw [hS] at k2; exact ⟨fun σ3 H3 o => k2 σ3 H3 (sub o)⟩
          | ret d => rw [hS] at k2; exact ⟨k2⟩
          | err x => rw [hS] at k2; exact ⟨k2⟩
          | bad => rw [hS] at k2; exact k2.elim
    · have e : i = ds.length := by omega
      subst e
      rw [List.drop_length] at k2
      exact .inl ⟨it.stop _ ρ' ts σ H (Nat.le_refl _) ok2, k2.out σ H (ok2.sub fun p hp => List.mem_append_right _ hp)⟩⟩
/-- a slot is forgotten ahead of a statement -/
def sForget (j : Nat) (S : Env → RS) : Env → RS := fun ρ => S (ρ.set j .no)
theorem SOk.forget1 {B0 B H : Hp} {ρ : Env} {ts : List (V × Sl)} {σ : St} (h : SOk K B0 B ρ ts σ H) (j : Nat) : SOk K B0 B (ρ.set j .no) ts σ H := by
  refine h.forget ?_ (fun i s e ne => ?_) fun _ _ _ _ => rfl
  · rw [List.length_set]
    obtain ⟨H0, n, s, t⟩ := h
    exact s.len
  · by_cases hj : j = i
    · subst hj
      rw [List.getElem?_set, if_pos rfl] at e
      split at e
      · cases e; exact absurd rfl ne
      · cases e
    · rw [List.getElem?_set, if_neg hj] at e
      exact e
theorem s_forget {st : Stmt} {S : Env → RS} (j : Nat) (h : PS X st (tS K mg E S)) : PS X st (tS K mg E (sForget j S)) := ps_weak h fun D σ H ⟨B0, B, ρ, ts, ok, av, q⟩ => ⟨B0, B, ρ.set j .no, ts, ok.forget1 j, av, q⟩

/-! ### comprehensions -/
def comp (g : PyData → Env → Option Env) (c : Env → Res Bool) (f : Env → Res PyData) (ρ : Env) : List PyData → Res (List PyData)
  | [] => .ok []
  | d :: ds => match g d ρ with
    | none => .bad
    | some ρ1 => (c ρ1).bind fun b => if b = true then (f ρ1).bind fun y => (comp g c f ρ ds).bind fun ys => .ok (y :: ys) else comp g c f ρ ds
def isNo : Option Sl → Bool
  | some .no => true
  | _ => false
theorem pts_weak {ifs : List Expr} {t t' : TT} (h : PTs X ifs t) (w : ∀ σ H Q, t' σ H Q → t σ H Q) : PTs X ifs t' := ⟨fun pins s σ H Q I q => h.run pins s σ H Q I (w σ H Q q)⟩
def bYes : Env → Res Bool := fun _ => .ok true
theorem ts_nil : PTs X [] (tT K mg E bYes) := pts_weak pts_nil fun σ H Q ⟨B0, B, ρ, ts, ok, q⟩ => q.ok H ok
theorem ts_one {c : Expr} {f : Env → Res Bool} (h : PT X c (tT K mg E f)) : PTs X [c] (tT K mg E f) := pts_one h
/-- the core: the target gives σ2 and ρ1 from the wiped slots -/
theorem lc_core' {B0 B H H1 : Hp} {ρ : Env} {ts tm : List (V × Sl)} {σ : St} {Q : VK} {J : It} {ds : List PyData} {g : PyData → Env → Option Env} {tg : TG} {c : Env → Res Bool} {f : Env → Res PyData} {vs : List Nat}
    (ok1 : SOk K B0 B ρ (tm ++ ts) σ H1) (it : Iter K B0 B tm J ds)
    (htg : ∀ (x : V) (d : PyData) (ρ1 : Env) (H' : Hp) (ts' : List (V × Sl)) (P : St → Hp → Prop), SOk K B0 B ρ ((x, .val d) :: ts') σ H' → g d ρ = some ρ1 →
      (∀ σ2, SOk K B0 B ρ1 ts' σ2 H' → (∀ ts2 H2, SOk K B0 B ρ1 ts2 σ2 H2 → SOk K B0 B ρ ts2 σ H2) → wipe σ2 vs = wipe σ vs → P σ2 H') → tg x (wipe σ vs) H' P)
    (k : (comp g c f ρ ds).go (fun zs => ∀ a H', SOk K B0 B ρ ((.ref a, .own zs) :: ts) σ H' → Apart ρ ts σ a → Q (.ref a) H') (Rz mg E B0 B)) :
    ∀ D, H1 D = none → ∃ W : Nat → Nat → Hp → Prop, (∃ m, W 0 m (upd H1 D (.lst []))) ∧ ∀ i m H, W i m H →
      (J.stop i H ∧ Q (.ref D) H) ∨ (J.go i H ∧ ∃ Nx : Hp → Prop, (∀ H', Nx H' → ∃ m', m' < m ∧ W (i + 1) m' H') ∧ ∀ x H', J.yld i H x H' → tg x (wipe σ vs) H' fun σ2 H2 => wipe σ2 vs = wipe σ vs ∧ tT K mg E c σ2 H2 fun b H3 =>
        if b = true then tD K mg E f σ2 H3 fun y H4 => ∃ acc, H4 D = some (.lst acc) ∧ acc.length < sizeLine ∧ Nx (upd H4 D (.lst (acc ++ [y]))) else Nx H3) := by
  intro D hD
  obtain ⟨own1, ap⟩ := ok1.newOwn (vs := []) (ds := []) (fun _ _ _ _ => .nil) (Nat.zero_le _) hD
  have apT : Apart ρ ts σ D := ⟨ap.1, fun p hp => ap.2 p (List.mem_append_right _ hp)⟩
  refine ⟨fun i m H => ∃ acc, m = ds.length - i ∧ i ≤ ds.length ∧ acc.length ≤ i ∧ SOk K B0 B ρ (tm ++ ((.ref D, .own acc) :: ts)) σ H ∧
      (comp g c f ρ (ds.drop i)).go (fun zs => ∀ a H', SOk K B0 B ρ ((.ref a, .own (acc ++ zs)) :: ts) σ H' → Apart ρ ts σ a → Q (.ref a) H') (Rz mg E B0 B),
    ⟨ds.length, [], by simp, Nat.zero_le _, Nat.le_refl _, own1.sub (fun p hp => ?_), by rw [List.drop_zero]; exact k⟩, ?_⟩
  · simp only [List.mem_append, List.mem_cons] at hp ⊢
    rcases hp with h | h | h
    · exact .inr (.inl h)
    · exact .inl h
    · exact .inr (.inr h)
  · rintro i m H ⟨acc, rfl, hi, hac, ok2, k2⟩
    by_cases hlt : i < ds.length
    · have e : ds.drop i = ds[i] :: ds.drop (i + 1) := List.drop_eq_getElem_cons hlt
      obtain ⟨g1, g2⟩ := it.go i ds[i] ρ _ σ H (by simp [hlt]) ok2
      refine .inr ⟨g1, fun H' => ∃ acc', acc'.length ≤ i + 1 ∧ SOk K B0 B ρ (tm ++ ((.ref D, .own acc') :: ts)) σ H' ∧
        (comp g c f ρ (ds.drop (i + 1))).go (fun zs => ∀ a H', SOk K B0 B ρ ((.ref a, .own (acc' ++ zs)) :: ts) σ H' → Apart ρ ts σ a → Q (.ref a) H') (Rz mg E B0 B),
        fun H' ⟨acc', h1, h2, h3⟩ => ⟨ds.length - (i + 1), by omega, acc', rfl, hlt, h1, h2, h3⟩, fun x H' y => ?_⟩
      have ok3 := g2 x H' y
      rw [e] at k2
      unfold comp at k2
      cases hgd : g ds[i] ρ with
      | none => rw [hgd] at k2; exact k2.bad
      | some ρ1 =>
        rw [hgd] at k2
        refine htg x ds[i] ρ1 H' _ _ ok3 hgd fun σ2 ok4 back hw => ⟨hw, ?_⟩
        have k2 : ((c ρ1).bind fun b => if b = true then (f ρ1).bind fun y => (comp g c f ρ (ds.drop (i + 1))).bind fun ys => .ok (y :: ys) else comp g c f ρ (ds.drop (i + 1))).go _ _ := k2
        refine ⟨B0, B, ρ1, _, ok4, k2.go_bind.go_mono fun b kb H3 ok5 => ?_⟩
        cases b with
        | false =>
          show ∃ acc', _
          exact ⟨acc, by omega, back _ _ ok5, kb⟩
        | true =>
          have kb : ((f ρ1).bind fun y => (comp g c f ρ (ds.drop (i + 1))).bind fun ys => .ok (y :: ys)).go _ _ := kb
          show tD K mg E f σ2 H3 _
          refine ⟨B0, B, ρ1, _, ok5, kb.go_bind.go_mono fun dy ky v H4 ok6 => ?_⟩
          have ok7 := back _ _ ok6
          obtain ⟨H0, n, s, t⟩ := id ok7
          obtain ⟨b', accV, eb, hB, h0, hp, hl, hd⟩ := t (.ref D, .own acc) (by simp)
          cases eb
          have dv : Dq K H0 v dy := t (v, .val dy) (by simp)
          have hlen := hd.length
          refine ⟨accV, hp, ?_, acc ++ [dy], by rw [List.length_append, List.length_singleton]; omega, ?_, ?_⟩
          · have := it.len
            rw [hlen]
            omega
          · have ok8 : SOk K B0 B ρ ((.ref D, .own acc) :: ((v, .val dy) :: (tm ++ ts))) σ H4 := ok7.sub fun p hp => by
              simp only [List.mem_append, List.mem_cons] at hp ⊢
              rcases hp with h | h | h | h
              · exact .inr (.inr (.inl h))
              · exact .inl h
              · exact .inr (.inl h)
              · exact .inr (.inr (.inr h))
            have ap8 : Apart ρ ((v, .val dy) :: (tm ++ ts)) σ D := ⟨ap.1, fun p hp es e => by
              rcases List.mem_cons.mp hp with z | z
              · subst z; cases e
              · exact ap.2 p z es e⟩
            have ok9 := ok8.writeT (es := acc ++ [dy]) (ys := accV ++ [v]) ap8 (fun H0' n' t' => by
              obtain ⟨b2, accV2, eb2, _, _, hp2, _, hd2⟩ := t' (.ref D, .own acc) (by simp)
              cases eb2
              rw [hp] at hp2
              cases hp2
              exact hd2.append (.cons (t' (v, .val dy) (by simp)) .nil)) (by
                rw [List.length_append, List.length_singleton, hlen]
                have := it.len
                omega)
            refine ok9.sub fun p hp => ?_
            simp only [List.mem_append, List.mem_cons] at hp ⊢
            rcases hp with h | h | h
            · exact .inr (.inr (.inl h))
            · exact .inl h
            · exact .inr (.inr (.inr h))
          · refine ky.go_bind.go_mono fun zs kz a H5 o5 ap5 => kz.ok a H5 ?_ ap5
            have e : acc ++ [dy] ++ zs = acc ++ dy :: zs := by simp
            rw [e] at o5
            exact o5
    · have e : i = ds.length := by omega
      subst e
      rw [List.drop_length] at k2
      have kk := k2.ok
      rw [List.append_nil] at kk
      refine .inl ⟨it.stop _ ρ _ σ H (Nat.le_refl _) ok2, kk D H (ok2.sub fun p hp => ?_) apT⟩
      exact List.mem_append_right _ hp
theorem wipe1 (σ : St) (j : Nat) (x : Option V) : wipe ((wipe σ [j]).set j x) [j] = wipe σ [j] := by
  show ((σ.set j none).set j x).set j none = σ.set j none
  rw [List.set_set, List.set_set]
theorem wipe2 (σ : St) (i j : Nat) (x y : Option V) : wipe (((wipe σ [i, j]).set i x).set j y) [i, j] = wipe σ [i, j] := by
  show (((((σ.set j none).set i none).set i x).set j y).set j none).set i none = (σ.set j none).set i none
  by_cases h : i = j
  · subst h
    simp only [List.set_set]
  · have e1 : ∀ l : St, ((((l.set i none).set i x).set j y).set j none).set i none = (l.set j none).set i none := fun l => by
      rw [List.set_set, List.set_set, List.set_comm x none h, List.set_set]
    rw [e1, List.set_set]
theorem isNo_at {o : Option Sl} (h : isNo o = true) : o = some .no := by
  cases o with
  | none => cases h
  | some s => cases s <;> first | rfl | cases h
theorem lc_weak {g : TG} {it : Env → Res (List PyData)} {gd : PyData → Env → Option Env} {c : Env → Res Bool} {f : Env → Res PyData} {ok : Env → Bool} {vs : List Nat}
    (htg : ∀ (B0 B : Hp) (ρ : Env) (σ : St), ok ρ = true → ∀ (x : V) (d : PyData) (ρ1 : Env) (H' : Hp) (ts' : List (V × Sl)) (P : St → Hp → Prop), SOk K B0 B ρ ((x, .val d) :: ts') σ H' → gd d ρ = some ρ1 →
      (∀ σ2, SOk K B0 B ρ1 ts' σ2 H' → (∀ ts2 H2, SOk K B0 B ρ1 ts2 σ2 H2 → SOk K B0 B ρ ts2 σ H2) → wipe σ2 vs = wipe σ vs → P σ2 H') → g x (wipe σ vs) H' P)
    {σ : St} {H : Hp} {Q : VK} (q : tF K mg E (fun ρ => (it ρ).bind fun ds => if ok ρ = true then comp gd c f ρ ds else .bad) σ H Q) : tLc (tI K mg E false it) g (tT K mg E c) (tD K mg E f) vs σ H Q := by
  obtain ⟨B0, B, ρ, ts, okk, q⟩ := q
  refine ⟨B0, B, ρ, ts, okk, q.go_bind.go_mono fun ds k J H1 tm ok1 _ itr => ?_⟩
  cases h : ok ρ with
  | false => rw [h] at k; exact k.bad
  | true =>
    rw [h] at k
    exact lc_core' (H := H) ok1 (itr B0 B) (htg B0 B ρ σ h) k
theorem set_len {B0 B H : Hp} {ρ : Env} {ts : List (V × Sl)} {σ : St} (h : SOk K B0 B ρ ts σ H) : σ.length = ρ.length := let ⟨_, _, s, _⟩ := h; s.len
theorem tg1 {j : Nat} (B0 B : Hp) (ρ : Env) (σ : St) (h : isNo ρ[j]? = true) (x : V) (d : PyData) (ρ1 : Env) (H' : Hp) (ts' : List (V × Sl)) (P : St → Hp → Prop) (ok : SOk K B0 B ρ ((x, .val d) :: ts') σ H') (e : gN j d ρ = some ρ1)
    (k : ∀ σ2, SOk K B0 B ρ1 ts' σ2 H' → (∀ ts2 H2, SOk K B0 B ρ1 ts2 σ2 H2 → SOk K B0 B ρ ts2 σ H2) → wipe σ2 [j] = wipe σ [j] → P σ2 H') : gName j x (wipe σ [j]) H' P := by
  cases e
  have hj := isNo_at h
  have e2 : (wipe σ [j]).set j (some x) = σ.set j (some x) := by
    show (σ.set j none).set j (some x) = _
    rw [List.set_set]
  show P ((wipe σ [j]).set j (some x)) H'
  rw [e2]
  refine k _ (ok.set j) (fun ts2 H2 o => o.forget (set_len ok) (fun i s ei ne => ?_) fun i s ei ne => ?_) (by rw [← e2, wipe1])
  · have ij : j ≠ i := fun z => by subst z; rw [hj] at ei; cases ei; exact ne rfl
    rw [List.getElem?_set, if_neg ij]
    exact ei
  · have ij : j ≠ i := fun z => by subst z; rw [hj] at ei; cases ei; exact ne rfl
    rw [List.getElem?_set, if_neg ij]
theorem tg2 {i j : Nat} (B0 B : Hp) (ρ : Env) (σ : St) (h : (isNo ρ[i]? && isNo ρ[j]?) = true) (x : V) (d : PyData) (ρ1 : Env) (H' : Hp) (ts' : List (V × Sl)) (P : St → Hp → Prop) (ok : SOk K B0 B ρ ((x, .val d) :: ts') σ H') (e : gN2 i j d ρ = some ρ1)
    (k : ∀ σ2, SOk K B0 B ρ1 ts' σ2 H' → (∀ ts2 H2, SOk K B0 B ρ1 ts2 σ2 H2 → SOk K B0 B ρ ts2 σ H2) → wipe σ2 [i, j] = wipe σ [i, j] → P σ2 H') : gTup K 2 (gCons (gName i) (gCons (gName j) gNil)) x (wipe σ [i, j]) H' P := by
  rw [Bool.and_eq_true] at h
  have hi := isNo_at h.1
  have hj := isNo_at h.2
  obtain ⟨⟨dx, dy⟩, e1, e2⟩ := gN2_of e
  subst e2
  obtain ⟨H0, n, s, t⟩ := id ok
  obtain ⟨a, vx, vy, ev, sq, r1, r2⟩ := two_at (show Dq K H0 x d from t (x, .val d) (by simp)) e1
  refine ⟨a, [vx, vy], ev, sq H' n.b, rfl, vx, [vy], rfl, vy, [], rfl, rfl, ?_⟩
  have t' : ∀ p ∈ ts', SlOk K B H0 H' p.1 p.2 := fun p hp => t p (List.mem_cons_of_mem _ hp)
  have o1 : SOk K B0 B ρ ((vx, .val dx) :: (vy, .val dy) :: ts') σ H' := ⟨H0, n, s, fun p hp => by
    rcases List.mem_cons.mp hp with z | z
    · subst z; exact r1
    · rcases List.mem_cons.mp z with z | z
      · subst z; exact r2
      · exact t' p z⟩
  have o0 : SOk K B0 B ρ ((vx, .val dx) :: (vy, .val dy) :: ts') (wipe σ [i, j]) H' := o1.forget (by rw [wipe_length]; exact set_len ok) (fun _ _ e _ => e) fun m s em ne => by
    have im : i ≠ m := fun z => by subst z; rw [hi] at em; cases em; exact ne rfl
    have jm : j ≠ m := fun z => by subst z; rw [hj] at em; cases em; exact ne rfl
    show ((σ.set j none).set i none)[m]? = σ[m]?
    rw [List.getElem?_set, if_neg im, List.getElem?_set, if_neg jm]
  refine k _ ((o0.set i).set j) (fun ts2 H2 o => o.forget (set_len ok) (fun m s em ne => ?_) fun m s em ne => ?_) (wipe2 σ i j _ _)
  · have im : i ≠ m := fun z => by subst z; rw [hi] at em; cases em; exact ne rfl
    have jm : j ≠ m := fun z => by subst z; rw [hj] at em; cases em; exact ne rfl
    rw [List.getElem?_set, if_neg jm, List.getElem?_set, if_neg im]
    exact em
  · have im : i ≠ m := fun z => by subst z; rw [hi] at em; cases em; exact ne rfl
    have jm : j ≠ m := fun z => by subst z; rw [hj] at em; cases em; exact ne rfl
    show σ[m]? = ((((σ.set j none).set i none).set i (some vx)).set j (some vy))[m]?
    rw [List.getElem?_set, if_neg jm, List.getElem?_set, if_neg im, List.getElem?_set, if_neg im, List.getElem?_set, if_neg jm]
variable {elt iter : Expr} {ifs : List Expr} {scope : Scope} {it : Env → Res (List PyData)} {c : Env → Res Bool} {f : Env → Res PyData} {x y : Str} {p p1 p2 : Pos} {i j kk : Nat}
def eLcA (j : Nat) (it : Env → Res (List PyData)) (c : Env → Res Bool) (f : Env → Res PyData) : Env → Res (List PyData) := fun ρ => (it ρ).bind fun ds => if isNo ρ[j]? = true then comp (gN j) c f ρ ds else .bad
def eLcB (i j : Nat) (it : Env → Res (List PyData)) (c : Env → Res Bool) (f : Env → Res PyData) : Env → Res (List PyData) := fun ρ => (it ρ).bind fun ds => if (isNo ρ[i]? && isNo ρ[j]?) = true then comp (gN2 i j) c f ρ ds else .bad
/-- [elt for x in iter if ..] -/
theorem f_lc (hc : X.calm = true) (hN : X.N.Nodup) (hi : PI X (.Name x p) iter (tI K mg E false it)) (bo : BlkOk X.N X.env.scope scope [(x, j)])
    (hg : ∀ (s : Shared) (H : Hp) (C : Addr) (cl : List (Str × Addr)) (fp : List Addr), PG (X.blk s H scope (compEnvC scope cl C X.env) fp) (.Name x p) (gName j))
    (ht : ∀ (s : Shared) (H : Hp) (C : Addr) (cl : List (Str × Addr)) (fp : List Addr), PTs (X.blk s H scope (compEnvC scope cl C X.env) fp) ifs (tT K mg E c))
    (he : ∀ (s : Shared) (H : Hp) (C : Addr) (cl : List (Str × Addr)) (fp : List Addr), PE (X.blk s H scope (compEnvC scope cl C X.env) fp) elt (tD K mg E f)) (hs : ∀ x, foldedSetIterable iter X.env x = pure x := by intro _; rfl) :
    PE X (.ListComp elt [⟨.Name x p, iter, ifs, 0⟩] scope pos) (tF K mg E (eLcA j it c f)) := pe_weak (pe_lc hc hN hi bo hg ht he hs) fun σ H Q q => lc_weak (ok := fun ρ => isNo ρ[j]?) tg1 q
theorem f_lc2 (hc : X.calm = true) (hN : X.N.Nodup) (hi : PI X (.Tuple [.Name x p1, .Name y p2] kk p) iter (tI X.K mg E false it)) (bo : BlkOk X.N X.env.scope scope [(x, i), (y, j)])
    (hg1 : ∀ (s : Shared) (H : Hp) (C : Addr) (cl : List (Str × Addr)) (fp : List Addr), PG (X.blk s H scope (compEnvC scope cl C X.env) fp) (.Name x p1) (gName i))
    (hg2 : ∀ (s : Shared) (H : Hp) (C : Addr) (cl : List (Str × Addr)) (fp : List Addr), PG (X.blk s H scope (compEnvC scope cl C X.env) fp) (.Name y p2) (gName j))
    (ht : ∀ (s : Shared) (H : Hp) (C : Addr) (cl : List (Str × Addr)) (fp : List Addr), PTs (X.blk s H scope (compEnvC scope cl C X.env) fp) ifs (tT X.K mg E c))
    (he : ∀ (s : Shared) (H : Hp) (C : Addr) (cl : List (Str × Addr)) (fp : List Addr), PE (X.blk s H scope (compEnvC scope cl C X.env) fp) elt (tD X.K mg E f)) (hs : ∀ x, foldedSetIterable iter X.env x = pure x := by intro _; rfl) :
    PE X (.ListComp elt [⟨.Tuple [.Name x p1, .Name y p2] kk p, iter, ifs, 0⟩] scope pos) (tF X.K mg E (eLcB i j it c f)) :=
  pe_weak (pe_lc hc hN hi bo (fun s H C cl fp => pg_tup (X := X.blk s H scope (compEnvC scope cl C X.env) fp) (n := 2) hc (pgs_cons (hg1 s H C cl fp) (pgs_cons (hg2 s H C cl fp) pgs_nil))) ht he hs) fun σ H Q q => lc_weak (ok := fun ρ => isNo ρ[i]? && isNo ρ[j]?) tg2 q
variable {m : Nat} {z : Str} {pz spos : Pos}
def sSetL (m : Nat) (f : Env → Res (List PyData)) : Env → RS := fun ρ => ofR (f ρ) fun ds => .nx (ρ.set m (.val (.list ds)))
theorem ps_lc {st : Stmt} {t : TE} {F : Env → Res (List PyData)} (h : PS X st (tAsg t (gName m))) (w : ∀ σ H Q, tF K mg E F σ H Q → t σ H Q) : PS X st (tS K mg E (sSetL m F)) := ps_weak h fun D σ H ⟨B0, B, ρ, ts, ok, av, q⟩ => w σ H _ ⟨B0, B, ρ, ts, ok, (ofR_go q).go_mono fun ds k a H' o ap => k.out _ H' ((o.freeze ap).set m)⟩
theorem ps_lcO {st : Stmt} {t : TE} {F : Env → Res (List PyData)} (h : PS X st (tAsg t (gName m))) (w : ∀ σ H Q, tF K mg E F σ H Q → t σ H Q) : PS X st (tS K mg E (sSetF m F)) := ps_weak h fun D σ H ⟨B0, B, ρ, ts, ok, av, q⟩ => w σ H _ ⟨B0, B, ρ, ts, ok, (ofR_go q).go_mono fun ds k a H' o ap => k.out _ H' (o.setOwn ap m)⟩
theorem s_lc (hc : X.calm = true) (hN : X.N.Nodup) (hy : X.N[m]? = some z) (hyl : X.env.scope.names.lookup z = some .local) (hsw : swapsWith (.ListComp elt [⟨.Name x p, iter, ifs, 0⟩] scope pos) (some (.Name z pz)) spos.line X.env = pure true)
    (hi : PI X (.Name x p) iter (tI K mg E false it)) (bo : BlkOk X.N X.env.scope scope [(x, j)])
    (hg : ∀ (s : Shared) (H : Hp) (C : Addr) (cl : List (Str × Addr)) (fp : List Addr), PG (X.blk s H scope (compEnvC scope cl C X.env) fp) (.Name x p) (gName j))
    (ht : ∀ (s : Shared) (H : Hp) (C : Addr) (cl : List (Str × Addr)) (fp : List Addr), PTs (X.blk s H scope (compEnvC scope cl C X.env) fp) ifs (tT K mg E c))
    (he : ∀ (s : Shared) (H : Hp) (C : Addr) (cl : List (Str × Addr)) (fp : List Addr), PE (X.blk s H scope (compEnvC scope cl C X.env) fp) elt (tD K mg E f)) (hs : ∀ x, foldedSetIterable iter X.env x = pure x := by intro _; rfl) :
    PS X (.Assign [.Name z pz] (.ListComp elt [⟨.Name x p, iter, ifs, 0⟩] scope pos) spos) (tS K mg E (sSetL m (eLcA j it c f))) := ps_lc (ps_setLc hc hN hy hyl hsw hi bo hg ht he hs) fun σ H Q q => lc_weak (ok := fun ρ => isNo ρ[j]?) tg1 q
theorem s_lc2 (hc : X.calm = true) (hN : X.N.Nodup) (hy : X.N[m]? = some z) (hyl : X.env.scope.names.lookup z = some .local) (hsw : swapsWith (.ListComp elt [⟨.Tuple [.Name x p1, .Name y p2] kk p, iter, ifs, 0⟩] scope pos) (some (.Name z pz)) spos.line X.env = pure true)
    (hi : PI X (.Tuple [.Name x p1, .Name y p2] kk p) iter (tI X.K mg E false it)) (bo : BlkOk X.N X.env.scope scope [(x, i), (y, j)])
    (hg1 : ∀ (s : Shared) (H : Hp) (C : Addr) (cl : List (Str × Addr)) (fp : List Addr), PG (X.blk s H scope (compEnvC scope cl C X.env) fp) (.Name x p1) (gName i))
    (hg2 : ∀ (s : Shared) (H : Hp) (C : Addr) (cl : List (Str × Addr)) (fp : List Addr), PG (X.blk s H scope (compEnvC scope cl C X.env) fp) (.Name y p2) (gName j))
    (ht : ∀ (s : Shared) (H : Hp) (C : Addr) (cl : List (Str × Addr)) (fp : List Addr), PTs (X.blk s H scope (compEnvC scope cl C X.env) fp) ifs (tT X.K mg E c))
    (he : ∀ (s : Shared) (H : Hp) (C : Addr) (cl : List (Str × Addr)) (fp : List Addr), PE (X.blk s H scope (compEnvC scope cl C X.env) fp) elt (tD X.K mg E f)) (hs : ∀ x, foldedSetIterable iter X.env x = pure x := by intro _; rfl) :
    PS X (.Assign [.Name z pz] (.ListComp elt [⟨.Tuple [.Name x p1, .Name y p2] kk p, iter, ifs, 0⟩] scope pos) spos) (tS X.K mg E (sSetL m (eLcB i j it c f))) :=
  ps_lc (ps_setLc hc hN hy hyl hsw hi bo (fun s H C cl fp => pg_tup (X := X.blk s H scope (compEnvC scope cl C X.env) fp) (n := 2) hc (pgs_cons (hg1 s H C cl fp) (pgs_cons (hg2 s H C cl fp) pgs_nil))) ht he hs) fun σ H Q q => lc_weak (ok := fun ρ => isNo ρ[i]? && isNo ρ[j]?) tg2 q
end
end DL

namespace DL
open PySem L2

/-! ### defs -/
def spD (K : PySem.W.Frag) (mg : Str → Option Value) (F : List PyData → Res PyData) : Sp := fun vs H Q E => ∃ B0 ds, Ex B0 H ∧ DqAll K B0 vs ds ∧ (F ds).go (fun d => ∀ v B0' H', Nw B0 H B0' H' → Dq K B0' v d → Q v H') (Rz mg E B0 H)
def runF (n m : Nat) (S : Env → RS) (ds : List PyData) : Res PyData := if ds.length = n then (match S (ds.map Sl.val ++ List.replicate (m - n) Sl.no) with
  | .nx _ => .ok .none
  | .ret d => .ok d
  | .err x => .err x
  | _ => .bad) else .bad
theorem runF_len {n m : Nat} {S : Env → RS} {ds : List PyData} {P : PyData → Prop} {R : Str → Prop} (h : (runF n m S ds).go P R) : ds.length = n := by
  unfold runF at h
  split at h
  · rename_i q; exact q
  · exact h.bad
theorem SOk.start {K : PySem.W.Frag} {B0 H : Hp} {vs : List V} {ds : List PyData} {N : List Str} (e : Ex B0 H) (h : DqAll K B0 vs ds) : SOk K B0 H (ds.map Sl.val ++ List.replicate (N.length - ds.length) Sl.no) [] (start N vs) H := by
  have hl := h.length
  refine ⟨B0, Nw.refl e, ⟨?_, fun i s e1 ne => ?_, fun i j as bs a hij ei => ?_⟩, fun p hp => nomatch hp⟩
  · unfold L2.start
    rw [List.length_append, List.length_append, List.length_map, List.length_map, List.length_replicate, List.length_replicate, hl]
  · by_cases hi : i < ds.length
    · rw [List.getElem?_append_left (by rw [List.length_map]; exact hi), List.getElem?_map] at e1
      cases q : ds[i]? with
      | none => rw [q] at e1; cases e1
      | some d =>
        rw [q] at e1
        cases e1
        obtain ⟨v, hv, dv⟩ := h.get q
        refine ⟨v, ?_, dv⟩
        unfold L2.start
        rw [List.getElem?_append_left (by rw [List.length_map, hl]; exact hi), List.getElem?_map, hv]
        rfl
    · rw [List.getElem?_append_right (by rw [List.length_map]; omega), List.getElem?_replicate] at e1
      split at e1
      · cases e1; exact absurd rfl ne
      · cases e1
  · by_cases hi : i < ds.length
    · rw [List.getElem?_append_left (by rw [List.length_map]; exact hi), List.getElem?_map] at ei
      cases q : ds[i]? with
      | none => rw [q] at ei; cases ei
      | some d => rw [q] at ei; cases ei
    · rw [List.getElem?_append_right (by rw [List.length_map]; omega), List.getElem?_replicate] at ei
      split at ei <;> cases ei
theorem body_ok {K : PySem.W.Frag} {mg : Str → Option Value} {S : Env → RS} {N : List Str} {n : Nat} {vs : List V} {H : Hp} {Q : VK} {E : XK} (h : spD K mg (runF n N.length S) vs H Q E) : tS K mg E S { nx := fun _ H' => Q .non H', rt := Q } (L2.start N vs) H := by
  obtain ⟨B0, ds, e, hd, k⟩ := h
  have hl := runF_len k
  refine ⟨B0, H, _, [], SOk.start e hd, (fun p hp => nomatch hp), ⟨?_⟩⟩
  unfold runF at k
  rw [if_pos hl] at k
  rw [hl]
  cases hS : S (ds.map Sl.val ++ List.replicate (N.length - n) Sl.no) with
  | nx ρ =>
    rw [hS] at k
    intro σ H' ⟨H0, n', _, _⟩
    exact k.ok .non H0 H' n' .non
  | ret d =>
    rw [hS] at k
    intro v H0 H' n' dv
    exact k.ok v H0 H' n' dv
  | brk ρ => rw [hS] at k; exact k.bad
  | cnt ρ => rw [hS] at k; exact k.bad
  | err x => rw [hS] at k; exact k.out
  | bad => rw [hS] at k; exact k.bad
theorem def_ok {P : Program} {w : World} {K : PySem.W.Frag} {mg : Str → Option Value} {base : Heap} {x qual : Str} {st : Stmt} {f : Addr} {fd : FuncData} {N ps : List Str} {k : Nat} {S : Env → RS} (F : Fun K x qual st f fd) (sc : FnScope N ps (defScope st))
    (hbody : ∀ (cdv : Value) (A : Around) (outer : List PySem.Env) (s : Shared) (H : Hp) (E : XK), Room k (A.deeper (PyProof.Rows.envOfC qual (defScope st) s.heap.objs.size f cdv)) → PSs (cxOf (L2.CX P w) P w K mg base N qual (defScope st) f cdv A outer s H E) (defBody st) (tS K mg E S)) :
    FnOk P w K mg base (L2.CX P w) (k + 1) f fd ps (spD K mg (runF ps.length N.length S)) :=
  F.okX sc (fun vs H Q E ⟨B0, ds, _, hd, kk⟩ => by rw [hd.length]; exact runF_len kk) fun cdv A outer s H vs Q E hr h => ⟨_, hbody cdv A outer s H E hr, body_ok h⟩

section
variable {X : Cx} {E : XK} {pos p : Pos} {e : Expr} {es : List Expr}
/-- f(..): F the data that it gives -/
theorem call_tD {F : List PyData → Res PyData} {fa : Env → Res (List PyData)} {σ : St} {H : Hp} {Q : VK} (q : tD X.K X.mg E (eCall F fa) σ H Q) : tCall (spD X.K X.mg F) [] E (tA X.K X.mg E fa) σ H Q := by
  obtain ⟨B0, B, ρ, ts, ok, q⟩ := q
  refine ⟨B0, B, ρ, ts, ok, q.go_bind.go_mono fun ds k vs H1 hl ok1 => ?_⟩
  obtain ⟨H0, n, s, t⟩ := id ok1
  refine ⟨H0, ds, n.b, by rw [List.append_nil]; exact vals_all (B := B) (H := H1) hl fun p hp => t p (List.mem_append_left _ hp), ?_⟩
  have t' : ∀ p ∈ ts, SlOk X.K B H0 H1 p.1 p.2 := fun p hp => t p (List.mem_append_right _ hp)
  cases hF : F ds with
  | ok d =>
    rw [hF] at k
    exact ⟨fun v B0' H' n' dv => k.ok v H' (mk_val (n.trans n') (s.grow n') (fun p hp => (t' p hp).grow n') dv)⟩
  | err x =>
    rw [hF] at k
    exact ⟨Rz.grow k.out n⟩
  | bad => rw [hF] at k; exact k.bad
theorem d_callX {F : List PyData → Res PyData} {fa : Env → Res (List PyData)} {CX : CXT} {k : Nat} {f : Addr} {fd : FuncData} {ps : List Str} {x : Str} (G : FnOk X.prog X.w X.K X.mg X.base CX k f fd ps (spD X.K X.mg F)) (hr : Room k X.A) (hg : Gl X x) (hm : X.mg x = some (.ref f)) (hk : PySem.W.keepIn X.K (.ref f) = true) (hb : Binds X.K fd ps []) (hx : Passes CX X E)
    (ha : PA X (e :: es) (tA X.K X.mg E fa)) (hdb : (x == ("__debug__" : Str)) = false := by decide) (he : starEach (e :: es) X.env = (false, eval e X.env) :: starEach es X.env := by rfl) (hpl : (backTo pos (starEach es X.env)).any (·.1) = false := by rfl) :
    PE X (.Call (.Name x p) (e :: es) [] pos) (tD X.K X.mg E (eCall F fa)) := pe_weak (pe_call G hr hg hm hk hb .nil hx ha hdb he hpl) fun σ H Q q => call_tD q
/-- no exception comes -/
def noErr {α : Type} : Res α → Res α
  | .ok a => .ok a
  | _ => .bad
def eCallN (F : List PyData → Res PyData) (f : Env → Res (List PyData)) : Env → Res PyData := fun ρ => (f ρ).bind fun ds => noErr (F ds)
theorem call_tDN {F : List PyData → Res PyData} {fa : Env → Res (List PyData)} {σ : St} {H : Hp} {Q : VK} (q : tD X.K X.mg E (eCallN F fa) σ H Q) : tCall (spD X.K X.mg F) [] E0 (tA X.K X.mg E fa) σ H Q := by
  obtain ⟨B0, B, ρ, ts, ok, q⟩ := q
  refine ⟨B0, B, ρ, ts, ok, q.go_bind.go_mono fun ds k vs H1 hl ok1 => ?_⟩
  obtain ⟨H0, n, s, t⟩ := id ok1
  refine ⟨H0, ds, n.b, by rw [List.append_nil]; exact vals_all (B := B) (H := H1) hl fun p hp => t p (List.mem_append_left _ hp), ?_⟩
  have t' : ∀ p ∈ ts, SlOk X.K B H0 H1 p.1 p.2 := fun p hp => t p (List.mem_append_right _ hp)
  cases hF : F ds with
  | ok d =>
    rw [hF] at k
    exact ⟨fun v B0' H' n' dv => k.ok v H' (mk_val (n.trans n') (s.grow n') (fun p hp => (t' p hp).grow n') dv)⟩
  | err x => rw [hF] at k; exact k.bad
  | bad => rw [hF] at k; exact k.bad
theorem d_callN {F : List PyData → Res PyData} {fa : Env → Res (List PyData)} {k : Nat} {f : Addr} {fd : FuncData} {ps : List Str} {x : Str} (G : FnOk X.prog X.w X.K X.mg X.base (L2.CX X.prog X.w) k f fd ps (spD X.K X.mg F)) (hr : Room k X.A) (hg : Gl X x) (hm : X.mg x = some (.ref f)) (hk : PySem.W.keepIn X.K (.ref f) = true) (hb : Binds X.K fd ps [])
    (ha : PA X (e :: es) (tA X.K X.mg E fa)) (hdb : (x == ("__debug__" : Str)) = false := by decide) (he : starEach (e :: es) X.env = (false, eval e X.env) :: starEach es X.env := by rfl) (hpl : (backTo pos (starEach es X.env)).any (·.1) = false := by rfl) :
    PE X (.Call (.Name x p) (e :: es) [] pos) (tD X.K X.mg E (eCallN F fa)) := pe_weak (pe_call G hr hg hm hk hb .nil passL ha hdb he hpl) fun σ H Q q => call_tDN q

/-! ### raise -/
def sRaise (x : Str) : Env → RS := fun _ => .err x
theorem ca_of {mg : Str → Option Value} {x : Str} {C : Addr} (h : mg x = some (.ref C)) : ca mg x = C := by
  unfold ca
  rw [h]
theorem s_raise {W : WX} {x m : Str} {j : Nat} {p2 q : Pos} {C : Addr} {bmB : List Value} {Bs newId initId : String} (hc : X.calm = true) (tk : Takes X (fun cls d _ H => E cls d H)) (F : ExcBaseFacts Bs newId initId bmB) (qe : PySem.W.excIn X.K C bmB newId = true) (gC : X.mg x = some (.ref C)) (kC : PySem.W.keepIn X.K (.ref C) = true) (r : Raises X (.ref C)) (hg : Gl X x)
    (hl : lineOf x = none) (hdb : (x == ("__debug__" : Str)) = false := by decide) : PS X (.Raise (some (.Call (.Name x p) [.Constant (.str m) j p2] [] pos)) none q) (tS X.K X.mg E (sRaise x)) :=
  ps_weak (ps_raise hc tk (pmk_own F qe gC kC r hg hdb)) fun D σ H ⟨B0, B, ρ, ts, ⟨H0, n, _, _⟩, av, k⟩ => by
    have z : Rz X.mg E B0 B x := k.out
    have z := z.plain hl H0 H n
    rw [ca_of gC] at z
    exact z

/-! ### lists of one's own -/
def sApp (i : Nat) (f : Env → Res PyData) : Env → RS := fun ρ => match ρ[i]? with
  | some (.own ds) => ofR (f ρ) fun d => if ds.length < sizeLine then .nx (ρ.set i (.own (ds ++ [d]))) else .bad
  | _ => .bad
variable {K : PySem.W.Frag} {mg : Str → Option Value} {i : Nat} {x : Str} {apos cpos : Pos}
theorem own_at {B0 B H : Hp} {ρ : Env} {ts : List (V × Sl)} {σ : St} (ok : SOk K B0 B ρ ts σ H) {ds : List PyData} (h : ρ[i]? = some (.own ds)) : ∃ a, σ[i]? = some (some (.ref a)) ∧ ∀ ts' H', SOk K B0 B ρ ts' σ H' → ∃ xs, H' a = some (.lst xs) ∧ xs.length ≤ sizeLine ∧ xs.length = ds.length ∧ ∀ H0, Slots K B H0 H' σ ρ → DqAll K H0 xs ds := by
  obtain ⟨H0, n, s, t⟩ := ok
  obtain ⟨v, e1, a, xs, e2, _⟩ := s.at_ i _ h (by simp)
  subst e2
  have key : ∀ (H0' H' : Hp), Slots K B H0' H' σ ρ → ∃ xs, H' a = some (.lst xs) ∧ xs.length ≤ sizeLine ∧ DqAll K H0' xs ds := fun H0' H' s' => by
    obtain ⟨v', e1', a', xs', e2', hB, h0, hp, hl, hd⟩ := s'.at_ i _ h (by simp)
    rw [e1] at e1'
    have e3 : V.ref a = v' := Option.some.inj (Option.some.inj e1')
    rw [← e3] at e2'
    cases e2'
    exact ⟨xs', hp, hl, hd⟩
  refine ⟨a, e1, fun ts' H' ⟨H0', n', s', t'⟩ => ?_⟩
  obtain ⟨xs', hp, hl, hd⟩ := key H0' H' s'
  refine ⟨xs', hp, hl, hd.length, fun H0'' s'' => ?_⟩
  obtain ⟨xs2, hp2, _, hd2⟩ := key H0'' H' s''
  rw [hp] at hp2
  cases hp2
  exact hd2
theorem s_app (hN : X.N[i]? = some x) (hv : Vis X.env.scope x) {f : Env → Res PyData} (he : PE X e (tD X.K mg E f)) (hd : (x == ("__debug__" : Str)) = false := by decide) (hcd : (x == ("__classdict__" : Str)) = false := by decide)
    (hsw : swapsWith (.Call (.Attribute (.Name x p) "append" apos) [e] [] cpos) none pos.line X.env = pure false := by rfl)
    (hbase : attributeBase (.Name x p) "append" X.env (eval (.Name x p) X.env) = eval (.Name x p) X.env := by rfl)
    (hfew : ((backTo cpos (starEach [e] X.env)).all (fun x => !x.1) && (backToKw cpos (keywordEach [] X.env)).all (fun x => x.1.isSome)
      && decide ([e].length + ([] : List Keyword).length + (if ([] : List Keyword).isEmpty then 0 else 1) < 30)) = true := by rfl)
    (hline : (apos.endLine == cpos.line) = true := by rfl) (hs : starEach [e] X.env = (false, eval e X.env) :: starEach [] X.env := by rfl) (hplain : (backTo cpos (starEach [] X.env)).any (·.1) = false := by rfl) :
    PS X (.Expr (.Call (.Attribute (.Name x p) "append" apos) [e] [] cpos) pos) (tS X.K mg E (sApp i f)) :=
  ps_weak (ps_expr (pe_bm PySem.F.plainAttrs_list PySem.F.slot_list_append PySem.F.type_list_append mt_append (pe_var hN hv hd hcd) (a_cons he a_nil hs) hbase hfew hline hs hplain) hsw) fun D σ H ⟨B0, B, ρ, ts, ok, av, q⟩ => by
    have q := q.out
    unfold sApp at q
    split at q
    · rename_i ds hρ
      have q : (ofR (f ρ) fun d => if ds.length < sizeLine then RS.nx (ρ.set i (.own (ds ++ [d]))) else .bad).go X.K mg E B0 B ts D := ⟨q⟩
      obtain ⟨a, ha, key⟩ := own_at ok hρ
      obtain ⟨xs, hp, _⟩ := key ts H ok
      refine ⟨.ref a, ha, .inl ⟨rfl, xs, SqL.of hp⟩, B0, B, ρ, ts, ok, ?_⟩
      unfold eCons
      have q := ofR_go q
      cases hf : f ρ with
      | err z => rw [hf] at q; exact ⟨q.out⟩
      | bad => rw [hf] at q; exact q.bad
      | ok d =>
        rw [hf] at q
        refine ⟨fun vs H' hl ok' => ?_⟩
        cases vs with
        | nil => cases hl
        | cons v vs =>
          cases vs with
          | cons _ _ => simp at hl
          | nil =>
            have q := q.ok.out
            split at q
            · rename_i hlt
              obtain ⟨xs', hp', hl', hlen, all⟩ := key _ H' ok'
              refine ⟨a, xs', v, rfl, rfl, hp', by rw [hlen]; exact hlt, q _ _ ?_⟩
              have ok2 : SOk X.K B0 B ρ ((v, .val d) :: ts) σ H' := ok'
              have av2 : AllVal ((v, Sl.val d) :: ts) := fun p hp => by
                rcases List.mem_cons.mp hp with z | z
                · subst z; exact ⟨d, rfl⟩
                · exact av p z
              exact (ok2.write av2 hρ ha (fun H0 n s t => (all H0 s).append (.cons (t (v, .val d) (by simp)) .nil)) (by rw [List.length_append, List.length_singleton, hlen]; omega)).drop
            · exact q.elim
    · exact q.elim
/-- xs.extend(e), e a list -/
def sExt (i : Nat) (f : Env → Res PyData) : Env → RS := fun ρ => match ρ[i]? with
  | some (.own ds) => ofR (f ρ) fun d => match d with
    | .list es => if ds.length + es.length ≤ sizeLine then .nx (ρ.set i (.own (ds ++ es))) else .bad
    | _ => .bad
  | _ => .bad
theorem s_ext (hN : X.N[i]? = some x) (hv : Vis X.env.scope x) {f : Env → Res PyData} (he : PE X e (tD X.K mg E f)) (hd : (x == ("__debug__" : Str)) = false := by decide) (hcd : (x == ("__classdict__" : Str)) = false := by decide)
    (hsw : swapsWith (.Call (.Attribute (.Name x p) "extend" apos) [e] [] cpos) none pos.line X.env = pure false := by rfl)
    (hbase : attributeBase (.Name x p) "extend" X.env (eval (.Name x p) X.env) = eval (.Name x p) X.env := by rfl)
    (hfew : ((backTo cpos (starEach [e] X.env)).all (fun x => !x.1) && (backToKw cpos (keywordEach [] X.env)).all (fun x => x.1.isSome)
      && decide ([e].length + ([] : List Keyword).length + (if ([] : List Keyword).isEmpty then 0 else 1) < 30)) = true := by rfl)
    (hline : (apos.endLine == cpos.line) = true := by rfl) (hs : starEach [e] X.env = (false, eval e X.env) :: starEach [] X.env := by rfl) (hplain : (backTo cpos (starEach [] X.env)).any (·.1) = false := by rfl) :
    PS X (.Expr (.Call (.Attribute (.Name x p) "extend" apos) [e] [] cpos) pos) (tS X.K mg E (sExt i f)) :=
  ps_weak (ps_expr (pe_bm PySem.F.plainAttrs_list PySem.F.slot_list_extend PySem.F.type_list_extend mt_extend (pe_var hN hv hd hcd) (a_cons he a_nil hs) hbase hfew hline hs hplain) hsw) fun D σ H ⟨B0, B, ρ, ts, ok, av, q⟩ => by
    have q := q.out
    unfold sExt at q
    split at q
    · rename_i ds hρ
      have q : (ofR (f ρ) fun d => match d with
        | .list es => if ds.length + es.length ≤ sizeLine then RS.nx (ρ.set i (.own (ds ++ es))) else .bad
        | _ => .bad).go X.K mg E B0 B ts D := ⟨q⟩
      obtain ⟨a, ha, key⟩ := own_at ok hρ
      obtain ⟨xs, hp, _⟩ := key ts H ok
      refine ⟨.ref a, ha, .inl ⟨rfl, xs, SqL.of hp⟩, B0, B, ρ, ts, ok, ?_⟩
      unfold eCons
      have q := ofR_go q
      cases hf : f ρ with
      | err z => rw [hf] at q; exact ⟨q.out⟩
      | bad => rw [hf] at q; exact q.bad
      | ok d =>
        rw [hf] at q
        refine ⟨fun vs H' hl ok' => ?_⟩
        cases vs with
        | nil => cases hl
        | cons v vs =>
          cases vs with
          | cons _ _ => simp at hl
          | nil =>
            have q := q.ok.out
            cases d with
            | list es =>
              have q : RS.goP X.K mg E B0 B ts D (if ds.length + es.length ≤ sizeLine then RS.nx (ρ.set i (.own (ds ++ es))) else .bad) := q
              split at q
              · rename_i hlt
                obtain ⟨xs', hp', hl', hlen, all⟩ := key _ H' ok'
                have ok2 : SOk X.K B0 B ρ ((v, .val (.list es)) :: ts) σ H' := ok'
                obtain ⟨H0, n, s, t⟩ := id ok2
                have z : SlOk X.K B H0 H' v (.val (.list es)) := t (v, .val (.list es)) (by simp)
                obtain ⟨b, zs, eb, hb, lb, db⟩ := z.lst n.b rfl
                subst eb
                have lz := db.length
                refine ⟨a, b, xs', zs, rfl, rfl, hp', hb, by omega, q _ _ ?_⟩
                have av2 : AllVal ((V.ref b, Sl.val (.list es)) :: ts) := fun p hp => by
                  rcases List.mem_cons.mp hp with z | z
                  · subst z; exact ⟨_, rfl⟩
                  · exact av p z
                refine (ok2.write av2 hρ ha (fun H0' n' s' t' => (all H0' s').append ?_) (by rw [List.length_append]; omega)).drop
                have z' : SlOk X.K B H0' H' (.ref b) (.val (.list es)) := t' (.ref b, .val (.list es)) (by simp)
                obtain ⟨b2, zs2, eb2, hb2, lb2, db2⟩ := z'.lst n'.b rfl
                cases eb2
                rw [hb] at hb2
                cases hb2
                exact db2
              · exact q.elim
            | _ => exact q.elim
    · exact q.elim
end
end DL

namespace DL
open PySem L2

section
variable {X : Cx} {K : PySem.W.Frag} {mg : Str → Option Value} {E : XK} {pos p q : Pos} {e : Expr} {es : List Expr}

/-! ### isinstance -/
def tyN : PyData → String
  | .none => "NoneType"
  | .bool _ => "bool"
  | .int _ => "int"
  | .str _ => "str"
  | .list _ => "list"
  | .tuple _ => "tuple"
  | .dict _ => "dict"
def isI : PyData → Bool
  | .int _ => true
  | .bool _ => true
  | _ => false
def isB : PyData → Bool
  | .bool _ => true
  | _ => false
def isT : PyData → Bool
  | .tuple _ => true
  | _ => false
def isS : PyData → Bool
  | .str _ => true
  | _ => false
def notScr : PyData → Res Unit
  | .dict _ => .bad
  | _ => .ok ()
def eIsi (h : PyData → Bool) (f : Env → Res PyData) : Env → Res PyData := fun ρ => (f ρ).bind fun d => (notScr d).bind fun _ => .ok (.bool (h d))
theorem kitI (d : PyData) : kitB (tyN d) "int" = some (isI d) := by cases d <;> first | decide +kernel | rfl
theorem kitBo (d : PyData) : kitB (tyN d) "bool" = some (isB d) := by cases d <;> first | decide +kernel | rfl
theorem kitT (d : PyData) : kitB (tyN d) "tuple" = some (isT d) := by cases d <;> first | decide +kernel | rfl
theorem kitS (d : PyData) : kitB (tyN d) "str" = some (isS d) := by cases d <;> first | decide +kernel | rfl
theorem SlOk.ty {B H0 H : Hp} {v : V} {s : Sl} (x : Ex H0 H) (h : SlOk K B H0 H v s) (ne : s ≠ .no) (ns : notScr (dat s) = .ok ()) : TyX K H v (.type (tyN (dat s))) := by
  cases s with
  | no => exact absurd rfl ne
  | own ds =>
    obtain ⟨a, xs, e, _, _, hp, _⟩ := h
    subst e
    exact .base (.lst hp)
  | val d =>
    have h : Dq K H0 v d := h
    cases h with
    | non => exact .base .non
    | bl b => exact .base (.bl b)
    | int i => exact .base (.int i)
    | str z _ => exact .base (.str z)
    | lst hp _ _ => exact .base (.lst (x _ _ hp))
    | tup hp _ _ => obtain ⟨_, _, q⟩ := hp.mono x; exact .fTuple q
    | pair _ _ _ => cases ns
    | scr ns' _ => cases ns
    | obj _ _ _ _ _ => cases ns
    | exc _ _ => cases ns
theorem d_isi {T : String} {T' : Str} {h : PyData → Bool} {f : Env → Res PyData} (hk : ∀ d, kitB (tyN d) T = some (h d)) (he : PE X e (tSh X.K mg E f)) (hg : Gl X "isinstance") (hm : X.mg "isinstance" = none) (hgT : Gl X T') (hmT : X.mg T' = none) (hvT : bootBuiltins T' = some (.type T))
    (hnT : T' ≠ "__name__" := by decide) (hdT : (T' == ("__debug__" : Str)) = false := by decide)
    (hs : starEach [e, .Name T' q] X.env = (false, eval e X.env) :: starEach [.Name T' q] X.env := by rfl) (hpl : (backTo pos (starEach [.Name T' q] X.env)).any (·.1) = false := by rfl) (hs2 : starEach [.Name T' q] X.env = (false, eval (.Name T' q) X.env) :: starEach [] X.env := by rfl) :
    PE X (.Call (.Name "isinstance" p) [e, .Name T' q] [] pos) (tD X.K mg E (eIsi h f)) :=
  pe_weak (pe_callB call_isi hg hm (by decide +kernel) (pa_cons he (pa_cons (pe_bltn hgT hmT hvT (v := .ty T) rfl hnT hdT) pa_nil hs2) hs) (by decide) (by decide) hs hpl) fun σ H Q ⟨B0, B, ρ, ts, ok, q⟩ => ⟨B0, B, ρ, ts, ok, q.go_bind.go_mono fun d k v s H' ne ed ok' => by
    subst ed
    obtain ⟨H0, n, sl, t⟩ := id ok'
    have hv : SlOk X.K B H0 H' v s := t (v, s) (by simp)
    have t' : ∀ p ∈ ts, SlOk X.K B H0 H' p.1 p.2 := fun p hp => t p (List.mem_cons_of_mem _ hp)
    have k := k.go_bind
    cases hns : notScr (dat s) with
    | err z => rw [hns] at k; cases hd : dat s <;> rw [hd] at hns <;> cases hns
    | bad => rw [hns] at k; exact k.bad
    | ok u =>
      rw [hns] at k
      exact ⟨v, .ty T, _, _, h (dat s), rfl, .ty T, hv.ty n.b ne hns, kit_ty (hk _), k.ok.ok _ _ (mk_val n sl t' (.bl _))⟩⟩

/-! ### calls told by what the arguments read as: the heap may grow -/
theorem SOk.same {B0 B H : Hp} {ρ : Env} {ts : List (V × Sl)} {σ : St} {v : V} {d : PyData} (ok : SOk K B0 B ρ ts σ H) (h : ∀ H0, Nw B0 B H0 H → (∀ p ∈ ts, SlOk K B H0 H p.1 p.2) → Dq K H0 v d) : SOk K B0 B ρ ((v, .val d) :: ts) σ H := by
  obtain ⟨H0, n, s, t⟩ := ok
  exact mk_val n s t (h H0 n t)

/-! ### sum, min, sorted -/
def allInts : List PyData → Option (List Int)
  | [] => some []
  | .int i :: ds => (allInts ds).bind fun is => some (i :: is)
  | _ => none
theorem allInts_eq : ∀ {ds : List PyData} {is : List Int}, allInts ds = some is → ds = is.map PyData.int
  | [], is, h => by cases h; rfl
  | d :: ds, is, h => by
    cases d with
    | int i =>
      have h : ((allInts ds).bind fun is => some (i :: is)) = some is := h
      cases q : allInts ds with
      | none => rw [q] at h; cases h
      | some js =>
        rw [q] at h
        cases h
        rw [allInts_eq q]
        rfl
    | _ => cases h
theorem allInts_map : ∀ is : List Int, allInts (is.map PyData.int) = some is
  | [] => rfl
  | i :: is => by
    show ((allInts (is.map PyData.int)).bind fun is => some (i :: is)) = _
    rw [allInts_map is]
    rfl
def sumD : PyData → Res PyData
  | .list xs => (Res.ofOpt (allInts xs)).bind fun is => .ok (.int is.sum)
  | .tuple xs => (Res.ofOpt (allInts xs)).bind fun is => .ok (.int is.sum)
  | _ => .bad
end

section
open PyProof.Rows
theorem sum_tup {prog : Program} {w : World} {A : Around} {E : Value → Shared → Prop} {s : Shared} {l : Addr} {its : List Value} {ns : List Int} {Q : Value → Shared → Prop} (hh : A.handled = none) (hl : s.heap.IsTuple l its.toArray) (hi : IntsAre its ns)
    (h : ∀ h' tk t', (∀ b o, s.heap.get? b = some o → h'.get? b = some o) → Q (.int ns.sum t') { s with heap := h', toks := tk }) : wpAny (model prog w) A (call (.builtin "sum") [.ref l]) Q E s := by
  obtain ⟨xs, e⟩ := hi.allInts.items
  have hn : numsOf (intItems xs).toList = ns := by rw [← e]; exact hi.numsOf
  rw [nums_intItems] at hn
  rw [e] at hl
  obtain ⟨o, ho, _⟩ := id hl
  have hlt : l < s.heap.objs.size := Heap.lt_size ho
  refine call_sum_walkG (wpAny_pyIter_tuple hl ?_)
  refine ⟨_, [s.heap.objs.size, l], [s.heap.objs.size], _, _, _, numAt xs, rfl, Walks.tuple (A := A.in1) hh _ l (Nat.ne_of_lt hlt) (intItems xs), ⟨⟨_, Heap.get?_push_size _ rfl, rfl, rfl⟩, hl.push _⟩, fun c hc => ?_, (fun _ _ => intItems_at), fun h' tk t' hk => ?_⟩
  · show c < (s.heap.push _).objs.size
    rw [Heap.size_push]
    rcases List.mem_cons.mp hc with z | z
    · rw [z]; exact Nat.lt_succ_self _
    · rw [List.mem_singleton.mp z]; exact Nat.lt_succ_of_lt hlt
  · have hsz : (intItems xs).size = xs.size := by simp [intItems]
    rw [hsz, preSum_eq, List.take_of_length_le (by simp), hn]
    refine h h' tk t' fun b o hb => hk b o (fun z => ?_) (Heap.get?_push_of_some _ hb)
    exact absurd (Heap.lt_size hb) (by rw [List.mem_singleton.mp z]; exact Nat.lt_irrefl _)
/-- sorted(x), what x's items are collected as vs -/
theorem sorted_col {prog : Program} {w : World} {A : Around} {E : Value → Shared → Prop} {s : Shared} {x : Value} {vs : List Value} {ds : List PyData} {Q : Value → Shared → Prop}
    (hcol : ∀ (E' : Value → Shared → Prop) (Q' : List Value → Shared → Prop), (∀ h' tk, (∀ b o, s.heap.get? b = some o → h'.get? b = some o) → Q' vs { s with heap := h', toks := tk }) → wpAny (model prog w) A.in1 (collect x) Q' E' s) (ha1 : argsOk "sorted" ⟨[x], []⟩) (hL : vs.length ≤ sizeLine)
    (er : PySem.W.EachIs (fun v d => ∃ as, Reads s.heap v d as) vs ds) (hal : PySem.W.AllAlike ds) (hk : PySem.W.Sortable ds) (hu : ∀ d, d ∈ ds → A.units + 2 + d.depth < cLine)
    (h : ∀ (h1 h' : Heap) (n tk : Nat) (h0 : Heap), (∀ b o, s.heap.get? b = some o → h1.get? b = some o) → (∀ b o, h1.get? b = some o → h'.get? b = some o) → h'.get? h1.objs.size = some (seqObj "list" (PySem.W.sortVals (PySem.W.dataKind h0 ds) false vs vs).toArray n) →
      (∀ b o, s.heap.get? b = some o → h0.get? b = some o) → Q (.ref h1.objs.size) { s with heap := h', toks := tk }) :
    wpAny (model prog w) A (call (.builtin "sorted") [x]) Q E s := by
  refine call_function_entry_kw kind_sorted plain_sorted entry_sorted ha1 ?_
  unfold Builtin.«sorted»
  refine wpAny_bind (m := checkCount "sorted" 1 1 _) (wpAny_pure ?_)
  refine wpAny_bind (hcol _ _ fun h1 tk hk1 => ?_)
  refine wpAny_bind (wpAny_newList ?_ hL)
  have hat : (h1.push (seqObj "list" vs.toArray 0)).get? h1.objs.size = some (seqObj "list" vs.toArray 0) := Heap.get?_push_size _ rfl
  refine wpAny_bind (wpAny_holding (wpAny_call_entry_kw slot_list_sort ⟨_, hat, rfl⟩ entry_list_sort ?body (args_list_sort _)))
  case body =>
    have k2 : ∀ b o, s.heap.get? b = some o → (PySem.W.sortingHeap (h1.push (seqObj "list" vs.toArray 0)) h1.objs.size vs).get? b = some o := fun b o hb =>
      PySem.W.sortingHeap_old (Nat.ne_of_lt (Heap.lt_size (hk1 b o hb))) (Heap.get?_push_of_some _ (hk1 b o hb))
    have er' : PySem.W.EachIs (fun v d => ∃ as, Reads (PySem.W.sortingHeap (h1.push (seqObj "list" vs.toArray 0)) h1.objs.size vs) v d as) vs ds := er.mono fun _ _ ⟨as, r⟩ => ⟨as, PyProof.Rows.Reads.keeps k2 r⟩
    refine PySem.W.list_sort_vals (s := { s with heap := h1.push (seqObj "list" vs.toArray 0), toks := tk }) hat (PySem.W.SortsAt.data (s := { s with heap := PySem.W.sortingHeap (h1.push (seqObj "list" vs.toArray 0)) h1.objs.size vs, toks := tk }) er' hal hk hu) hL ?_
    refine ⟨_, rfl, wpAny_pure ⟨_, rfl, ?_⟩⟩
    obtain ⟨ep, he⟩ := sortedHeap_at (vs := vs) (out := (PySem.W.sortVals (PySem.W.dataKind (PySem.W.sortingHeap (h1.push (seqObj "list" vs.toArray 0)) h1.objs.size vs) ds) false vs vs).toArray) hat
    refine h h1 _ ep tk _ hk1 (fun b o hb' => ?_) he k2
    rw [sortedHeap_old (Nat.ne_of_lt (Heap.lt_size hb')) (by rw [Heap.size_push]; exact Nat.lt_succ_of_lt (Heap.lt_size hb'))]
    exact Heap.get?_push_of_some _ hb'
end

section
variable {X : Cx} {K : PySem.W.Frag} {mg : Str → Option Value} {E : XK}
theorem c_sum (hc : X.calm = true) : CallR X (.builtin "sum") (rDC X.K mg E (call1 sumD)) := by
  have tupR : CallR X (.builtin "sum") (fun vs H Q => ∃ (a : Addr) (ns : List Int), vs = [V.ref a] ∧ SqT X.K H a (ns.map V.int) ∧ Q (.int ns.sum) H) := by
    intro pins s σ H vs us Q I r h
    obtain ⟨a, ns, rfl, hs, q⟩ := h
    obtain ⟨its, rv, hl, _⟩ := I.tuple hs
    rw [Vals.ref1 r]
    exact sum_tup (I.ok.hd hc) hl rv.ints fun h' tk t' hk => ⟨.int _, H, I.kept hk, ⟨_, rfl⟩, q⟩
  refine call1_of (callr_or (cr_sum hc) tupR) fun B0 B H0 H ρ ts σ x s Q n sl t hx ne k => ?_
  generalize ex : dat s = dx at k
  cases dx with
  | list xs =>
    obtain ⟨is, hi, k2⟩ := ofOpt_go k.go_bind
    have e := allInts_eq hi
    subst e
    obtain ⟨a, us, ea, ha, la, da⟩ := hx.lst n.b ex
    have eu := da.ints_inv
    subst eu
    exact .inl ⟨a, is, by rw [ea], SqL.of ha, k2.ok _ _ (mk_val n sl t (.int _))⟩
  | tuple xs =>
    obtain ⟨is, hi, k2⟩ := ofOpt_go k.go_bind
    have e := allInts_eq hi
    subst e
    obtain ⟨a, us, ea, ha, la, da⟩ := hx.tup n.b ex
    have eu := da.ints_inv
    subst eu
    exact .inr ⟨a, is, by rw [ea], ha.sq, k2.ok _ _ (mk_val n sl t (.int _))⟩
  | _ => exact k.bad
/-- what may be sorted -/
def alikeB (ds : List PyData) : Bool := ds.all fun d => ds.all fun d' => PySem.W.alike d d'
def tup1 : PyData → Bool
  | .tuple (_ :: _) => true
  | _ => false
def plainK : PyData → Bool
  | .none => false
  | .tuple _ => false
  | _ => true
def sortB (ds : List PyData) : Bool := PyData.plainAll ds && alikeB ds && (ds.all tup1 || ds.all plainK) && decide (PyData.depthAll ds ≤ 64)
def srt (ds : List PyData) : List PyData := ds.mergeSort (PySem.W.dataLe false id)
def sortedD : PyData → Res PyData
  | .list ds => if sortB ds = true then .ok (.list (srt ds)) else .bad
  | .tuple ds => if sortB ds = true then .ok (.list (srt ds)) else .bad
  | _ => .bad
theorem depth_le : ∀ {ds : List PyData} {d : PyData}, d ∈ ds → d.depth ≤ PyData.depthAll ds
  | [], _, h => nomatch h
  | x :: ds, d, h => by
    rw [PyData.depthAll]
    rcases List.mem_cons.mp h with z | z
    · subst z; exact Nat.le_max_left _ _
    · exact Nat.le_trans (depth_le z) (Nat.le_max_right _ _)
theorem alikeB_all {ds : List PyData} (h : alikeB ds = true) : PySem.W.AllAlike ds := fun d hd d' hd' => by
  unfold alikeB at h
  rw [List.all_eq_true] at h
  have := h d hd
  rw [List.all_eq_true] at this
  exact this d' hd'
theorem sortable_of {ds : List PyData} (h : (ds.all tup1 || ds.all plainK) = true) : PySem.W.Sortable ds := by
  rw [Bool.or_eq_true] at h
  rcases h with h | h
  · refine .inl fun d hd => ?_
    rw [List.all_eq_true] at h
    have := h d hd
    cases d with
    | tuple xs =>
      cases xs with
      | nil => cases this
      | cons x r => exact ⟨x, r, rfl⟩
    | _ => cases this
  · refine .inr fun d hd => ?_
    rw [List.all_eq_true] at h
    have := h d hd
    refine ⟨fun z => ?_, fun xs z => ?_⟩
    · subst z; cases this
    · subst z; cases this
theorem sortB_parts {ds : List PyData} (h : sortB ds = true) : PyData.plainAll ds = true ∧ PySem.W.AllAlike ds ∧ PySem.W.Sortable ds ∧ PyData.depthAll ds ≤ 64 := by
  unfold sortB at h
  simp only [Bool.and_eq_true] at h
  exact ⟨h.1.1.1, alikeB_all h.1.1.2, sortable_of h.1.2, of_decide_eq_true h.2⟩
/-- three lists in step: values of the layer, the machine's values, data -/
inductive Tri (K : PySem.W.Frag) (H : Hp) : List V → List Value → List PyData → Prop
  | nil : Tri K H [] [] []
  | cons {v : V} {u : Value} {d : PyData} {vs : List V} {us : List Value} {ds : List PyData} : RelV v u → Dq K H v d → Tri K H vs us ds → Tri K H (v :: vs) (u :: us) (d :: ds)
theorem each_tri {K : PySem.W.Frag} {H : Hp} {h : Heap} : ∀ {vs : List V} {us : List Value} {ds : List PyData}, Vals vs us → DqAll K H vs ds → (∀ v u d, RelV v u → Dq K H v d → d ∈ ds → ∃ as, Reads h u d as) →
    PySem.W.EachIs (fun u (p : V × PyData) => RelV p.1 u ∧ Dq K H p.1 p.2) us (vs.zip ds) ∧ PySem.W.EachIs (fun u (p : V × PyData) => ∃ as, Reads h u p.2 as) us (vs.zip ds) ∧ PySem.W.EachIs (fun u d => ∃ as, Reads h u d as) us ds ∧ (vs.zip ds).map Prod.snd = ds
  | _, _, _, .nil, .nil, _ => ⟨.nil, .nil, .nil, rfl⟩
  | _, _, _, .cons r rs, .cons q qs, f => by
    obtain ⟨h1, h2, h3, h4⟩ := each_tri rs qs fun v u d a b c => f v u d a b (List.mem_cons_of_mem _ c)
    have z := f _ _ _ r q List.mem_cons_self
    exact ⟨.cons ⟨r, q⟩ h1, .cons z h2, .cons z h3, by rw [List.zip_cons_cons, List.map_cons, h4]⟩
theorem each_back {K : PySem.W.Frag} {H : Hp} : ∀ {us : List Value} {ps : List (V × PyData)}, PySem.W.EachIs (fun u (p : V × PyData) => RelV p.1 u ∧ Dq K H p.1 p.2) us ps → Vals (ps.map Prod.fst) us ∧ DqAll K H (ps.map Prod.fst) (ps.map Prod.snd)
  | _, _, .nil => ⟨.nil, .nil⟩
  | _, _, .cons ⟨r, q⟩ t => by
    obtain ⟨h1, h2⟩ := each_back t
    exact ⟨.cons r h1, .cons q h2⟩
theorem plain_in : ∀ {ds : List PyData} {d : PyData}, PyData.plainAll ds = true → d ∈ ds → d.plain = true
  | x :: ds, d, h, hd => by
    rw [PyData.plainAll, Bool.and_eq_true] at h
    rcases List.mem_cons.mp hd with z | z
    · subst z; exact h.1
    · exact plain_in h.2 z
/-- sorted of collected items -/
theorem sorted_rule {pins : List (Addr × Obj)} {σ : St} {H H0 : Hp} {s : Shared} {x : Value} {us : List V} {vs : List Value} {ds : List PyData} {Q : VK} (hu : X.A.units + 66 < cLine) (I : Inv X pins σ H s)
    (hcol : ∀ (E' : Value → Shared → Prop) (Q' : List Value → Shared → Prop), (∀ h' tk, (∀ b o, s.heap.get? b = some o → h'.get? b = some o) → Q' vs { s with heap := h', toks := tk }) → wpAny (model X.prog X.w) X.A.in1 (collect x) Q' E' s) (ha1 : argsOk "sorted" ⟨[x], []⟩)
    (ex : Ex H0 H) (rv : Vals us vs) (da : DqAll X.K H0 us ds) (hl : us.length ≤ sizeLine) (hs : sortB ds = true)
    (q : ∀ ws p, H p = none → DqAll X.K H0 ws (srt ds) → ws.length ≤ sizeLine → Q (.ref p) (upd H p (.lst ws))) : wpAny (model X.prog X.w) X.A (call (.builtin "sorted") [x]) (EP X pins σ Q) X.xe s := by
  obtain ⟨hp, hal, hso, hdp⟩ := sortB_parts hs
  have hlen : vs.length ≤ sizeLine := by rw [← rv.length]; exact hl
  obtain ⟨e1, e2, e3, e4⟩ := each_tri (h := s.heap) rv da fun v u d r dq hd => Dp.reads I d v u (Dq.dp (plain_in hp hd) (dq.mono ex)) r
  refine sorted_col hcol ha1 hlen e3 hal hso (fun d hd => ?_) fun h1 h' n tk h0 k1 k2 hat k0 => ?_
  · have := depth_le hd
    omega
  · have e2' : PySem.W.EachIs (fun u (p : V × PyData) => ∃ as, Reads h0 u p.2 as) vs (us.zip ds) := e2.mono fun _ _ ⟨as, r⟩ => ⟨as, PyProof.Rows.Reads.keeps k0 r⟩
    have srtd := PySem.W.sortVals_data (enc := Prod.snd) (h' := h0) false e1 e2' (by rw [e4]; exact hal)
    rw [e4] at srtd
    obtain ⟨v1, v2⟩ := each_back srtd
    have em : ((us.zip ds).mergeSort (PySem.W.dataLe false Prod.snd)).map Prod.snd = srt ds := by
      have := PySem.W.sort_maps (r := PySem.W.dataLe false (Prod.snd : V × PyData → PyData)) (s := PySem.W.dataLe false id) Prod.snd (l := us.zip ds) (fun a _ b _ => rfl)
      rw [this, e4]
      rfl
    rw [em] at v2
    have lw : (((us.zip ds).mergeSort (PySem.W.dataLe false Prod.snd)).map Prod.fst).length ≤ sizeLine := by
      rw [List.length_map, List.length_mergeSort, List.length_zip]
      omega
    have I1 : Inv X pins σ H { s with heap := h1, toks := tk } := I.kept k1
    exact ⟨.ref h1.objs.size, upd H h1.objs.size (.lst (((us.zip ds).mergeSort (PySem.W.dataLe false Prod.snd)).map Prod.fst)), I1.laid (t' := tk) k2 (Nat.le_refl _) ⟨lw, _, n, v1, hat⟩, rfl, q _ _ (I1.hok.fresh (Nat.le_refl _)) v2 lw⟩
theorem c_sorted (hu : X.A.units + 66 < cLine) : CallR X (.builtin "sorted") (rDC X.K mg E (call1 sortedD)) := by
  intro pins s σ H xs us Q I r ⟨B0, B, ρ, ts, σ', ss, hl, ok, hn, k⟩
  cases ss with
  | nil => exact k.bad
  | cons sl ss =>
    cases ss with
    | cons _ _ => exact k.bad
    | nil =>
      cases xs with
      | nil => cases hl
      | cons x xs =>
        cases xs with
        | cons _ _ => simp at hl
        | nil =>
          obtain ⟨H0, n, s0, t⟩ := id ok
          have hx : SlOk X.K B H0 H x sl := t (x, sl) (by simp)
          have t' : ∀ p ∈ ts, SlOk X.K B H0 H p.1 p.2 := fun p hp => t p (by simp [hp])
          have k : (sortedD (dat sl)).go _ _ := k
          generalize ex : dat sl = dx at k
          cases dx with
          | list ds =>
            have k : (if sortB ds = true then Res.ok (PyData.list (srt ds)) else .bad).go _ _ := k
            split at k
            · rename_i hs
              obtain ⟨a, us', ea, ha, la, da⟩ := hx.lst n.b ex
              subst ea
              rw [Vals.ref1 r]
              obtain ⟨its, rv, pl, _⟩ := I.list (SqL.of ha)
              obtain ⟨o, nn, ho, hc, _, hd⟩ := id pl
              refine sorted_rule hu I (fun E' Q' hq => PySem.wpAny_collect_seq (A := X.A.in1) a (.inl rfl) ho hc hd (fun h' hk => ?_) (by rw [List.size_toArray, ← rv.length]; exact la)) (PyProof.Rows.args_sorted1 _) n.b rv da la hs fun ws p hp hw lw => k.ok _ _ (mk_lst n s0 t' hw lw hp)
              have := hq h' s.toks hk
              simpa using this
            · exact k.bad
          | tuple ds =>
            have k : (if sortB ds = true then Res.ok (PyData.list (srt ds)) else .bad).go _ _ := k
            split at k
            · rename_i hs
              obtain ⟨a, us', ea, ha, la, da⟩ := hx.tup n.b ex
              subst ea
              rw [Vals.ref1 r]
              obtain ⟨its, rv, pl, _⟩ := I.tuple (ha.sq)
              obtain ⟨o, ho, hc, nn, hd⟩ := id pl
              refine sorted_rule hu I (fun E' Q' hq => PySem.wpAny_collect_seq (A := X.A.in1) a (.inr rfl) ho hc hd (fun h' hk => ?_) (by rw [List.size_toArray, ← rv.length]; exact la)) (PyProof.Rows.args_sorted1 _) n.b rv da la hs fun ws p hp hw lw => k.ok _ _ (mk_lst n s0 t' hw lw hp)
              have := hq h' s.toks hk
              simpa using this
            · exact k.bad
          | _ => exact k.bad
end
end DL

namespace DL
open PySem L2

section
variable {X : Cx} {K : PySem.W.Frag} {mg : Str → Option Value} {E : XK} {pos p q : Pos} {e a b c : Expr} {es : List Expr} {x : Str}
theorem dv (i : Nat) (hN : X.N[i]? = some x := by rfl) (hv : Vis X.env.scope x := by first | exact Or.inl rfl | exact Or.inr (Or.inl rfl) | exact Or.inr (Or.inr rfl)) (hd : (x == ("__debug__" : Str)) = false := by decide) (hcd : (x == ("__classdict__" : Str)) = false := by decide) :
    PE X (.Name x pos) (tD K mg E (eVar i)) := d_var hN hv hd hcd
theorem sv (i : Nat) (hN : X.N[i]? = some x := by rfl) (hv : Vis X.env.scope x := by first | exact Or.inl rfl | exact Or.inr (Or.inl rfl) | exact Or.inr (Or.inr rfl)) (hd : (x == ("__debug__" : Str)) = false := by decide) (hcd : (x == ("__classdict__" : Str)) = false := by decide) :
    PE X (.Name x pos) (tSh K mg E (eVarS i)) := s_var hN hv hd hcd
def eList (f : Env → Res (List PyData)) : Env → Res PyData := fun ρ => (f ρ).bind fun ds => .ok (.list ds)
theorem d_fresh {f : Env → Res (List PyData)} (h : PE X e (tF K mg E f)) : PE X e (tD K mg E (eList f)) := d_of_f h
/-- not x, by truth -/
def eNotT (f : Env → Res PyData) : Env → Res PyData := fun ρ => (f ρ).bind fun d => (truD d).bind fun b => .ok (.bool !b)
theorem d_notT {f : Env → Res PyData} (h : PE X a (tSh X.K mg E f)) : PE X (.UnaryOp .Not a pos) (tD X.K mg E (eNotT f)) :=
  pe_weak (pe_notT h) fun σ H Q ⟨B0, B, ρ, ts, ok, q⟩ => ⟨B0, B, ρ, ts, ok, q.go_bind.go_mono fun d k v s H' ne e ok' => by
    subst e
    obtain ⟨H0, n, sl, t⟩ := id ok'
    obtain ⟨b, hb, kb⟩ := k.go_bind.go_ok (truD_err _)
    exact ⟨b, tru_of n.b ne (t (v, s) (by simp)) hb, kb.ok _ _ ok'.drop.bl⟩⟩
/-- a callee, ready for use -/
structure Cal (P : Program) (w : World) (K : PySem.W.Frag) (mg : Str → Option Value) (base : Heap) (k : Nat) (x : Str) (ps : List Str) (F : List PyData → Res PyData) : Prop where
  ex : ∃ (f : Addr) (fd : FuncData), FnOk P w K mg base (L2.CX P w) k f fd ps (spD K mg F) ∧ mg x = some (.ref f) ∧ PySem.W.keepIn K (.ref f) = true ∧ Binds K fd ps []
theorem Cal.mono {P : Program} {w : World} {base : Heap} {j k : Nat} {ps : List Str} {F : List PyData → Res PyData} (C : Cal P w K mg base j x ps F) (h : j ≤ k) : Cal P w K mg base k x ps F :=
  let ⟨f, fd, G, r⟩ := C.ex; ⟨f, fd, G.mono h, r⟩
theorem d_calX {F : List PyData → Res PyData} {fa : Env → Res (List PyData)} {k : Nat} {ps : List Str} (C : Cal X.prog X.w X.K X.mg X.base k x ps F) (hr : Room k X.A) (hx : Passes (L2.CX X.prog X.w) X E) (hg : Gl X x)
    (ha : PA X (e :: es) (tA X.K X.mg E fa)) (hdb : (x == ("__debug__" : Str)) = false := by decide) (he : starEach (e :: es) X.env = (false, eval e X.env) :: starEach es X.env := by rfl) (hpl : (backTo pos (starEach es X.env)).any (·.1) = false := by rfl) :
    PE X (.Call (.Name x p) (e :: es) [] pos) (tD X.K X.mg E (eCall F fa)) := by
  obtain ⟨f, fd, G, hm, hk, hb⟩ := C.ex
  exact d_callX G hr hg hm hk hb hx ha hdb he hpl
theorem d_cal {F : List PyData → Res PyData} {fa : Env → Res (List PyData)} {k : Nat} {ps : List Str} (C : Cal X.prog X.w X.K X.mg X.base k x ps F) (hr : Room k X.A) (hg : Gl X x)
    (ha : PA X (e :: es) (tA X.K X.mg E fa)) (hdb : (x == ("__debug__" : Str)) = false := by decide) (he : starEach (e :: es) X.env = (false, eval e X.env) :: starEach es X.env := by rfl) (hpl : (backTo pos (starEach es X.env)).any (·.1) = false := by rfl) :
    PE X (.Call (.Name x p) (e :: es) [] pos) (tD X.K X.mg E (eCallN F fa)) := by
  obtain ⟨f, fd, G, hm, hk, hb⟩ := C.ex
  exact d_callN G hr hg hm hk hb ha hdb he hpl
/-- an own exception class -/
structure ExcT (K : PySem.W.Frag) (mg : Str → Option Value) (x : Str) : Prop where
  ex : ∃ C : Addr, mg x = some (.ref C) ∧ PySem.W.excIn K C He.veBase "ValueError.__new__" = true ∧ PySem.W.keepIn K (.ref C) = true ∧ PySem.W.subIn K (.ref C) (.type "BaseException") = some true ∧ PySem.W.typeIn K (.ref C) = some (.type "type")
theorem s_raiseT {m : Str} {j : Nat} {p2 q : Pos} (T : ExcT X.K X.mg x) (hc : X.calm = true) (tk : Takes X (fun cls d _ H => E cls d H)) (hg : Gl X x) (hl : lineOf x = none := by decide) (hdb : (x == ("__debug__" : Str)) = false := by decide) :
    PS X (.Raise (some (.Call (.Name x p) [.Constant (.str m) j p2] [] pos)) none q) (tS X.K X.mg E (sRaise x)) := by
  obtain ⟨C, gC, qe, kC, bC, tC⟩ := T.ex
  exact s_raise (W := fun cls d _ H => E cls d H) hc tk PySem.F.excBase_ValueError qe gC kC (raises_own bC tC) hg hl hdb
/-- the built-ins' names are free -/
structure Blt (mg : Str → Option Value) : Prop where
  isinstance : mg "isinstance" = none
  int : mg "int" = none
  bool : mg "bool" = none
  tuple : mg "tuple" = none
  str : mg "str" = none
  len : mg "len" = none
  zip : mg "zip" = none
  range : mg "range" = none
  enumerate : mg "enumerate" = none
  min : mg "min" = none
  max : mg "max" = none
  sorted : mg "sorted" = none
  set : mg "set" = none
  sum : mg "sum" = none
  list : mg "list" = none
theorem ru {k n : Nat} {A : Around} (hr : Room k A) (h : n ≤ 200 := by decide) : A.units + n < cLine := by
  have := hr.un
  omega
variable {k : Nat}
theorem oEq (hr : Room k X.A) : OpR X (compareOp .Eq) (rD2 X.K mg E eqD) := op_eqD' (ru hr)
theorem oNe (hr : Room k X.A) : OpR X (compareOp .NotEq) (rD2 X.K mg E neD) := op_neD' (ru hr)
theorem oLt (hr : Room k X.A) : OpR X (compareOp .Lt) (rD2 X.K mg E ltD) := op_ltD (ru hr)
theorem oLe (hr : Room k X.A) : OpR X (compareOp .LtE) (rD2 X.K mg E leD) := op_leD (ru hr)
theorem oGt (hr : Room k X.A) : OpR X (compareOp .Gt) (rD2 X.K mg E gtD) := op_gtD (ru hr)
theorem oGe (hr : Room k X.A) : OpR X (compareOp .GtE) (rD2 X.K mg E geD) := op_geD (ru hr)
theorem oIn (hr : Room k X.A) : OpR X (compareOp .In) (rD2 X.K mg E inD) := op_inD' (ru hr)
theorem oNi (hr : Room k X.A) : OpR X (compareOp .NotIn) (rD2 X.K mg E niD) := op_niD (ru hr)
def eNeg (f : Env → Res PyData) : Env → Res PyData := fun ρ => (f ρ).bind negD
theorem dNeg {f : Env → Res PyData} (ha : PE X a (tD K mg E f)) : PE X (.UnaryOp .USub a pos) (tD K mg E (eNeg f)) := d_neg ha
theorem dGI {i : Int} (h : ∃ t, X.mg x = some (.int i t)) (hg : Gl X x) (hd : (x == ("__debug__" : Str)) = false := by decide) : PE X (.Name x pos) (tD K mg E (eC (.int i))) := by
  obtain ⟨t, h⟩ := h
  exact d_globI hg h hd
theorem dGS {z : Str} (h : ∃ t, X.mg x = some (.str z t)) (hg : Gl X x) (hz : z.length ≤ sizeLine := by decide) (hd : (x == ("__debug__" : Str)) = false := by decide) : PE X (.Name x pos) (tD K mg E (eC (.str z))) := by
  obtain ⟨t, h⟩ := h
  exact d_globS hg h hz hd
/-- built-ins by name -/
theorem dLen (T : Blt X.mg) (hg : Gl X "len") {f : Env → Res (List PyData)} (ha : PA X [a] (tAS X.K mg E f)) (he : starEach [a] X.env = (false, eval a X.env) :: starEach [] X.env := by rfl) (hpl : (backTo pos (starEach [] X.env)).any (·.1) = false := by rfl) :
    PE X (.Call (.Name "len" p) [a] [] pos) (tD X.K mg E (eCall (call1 lenD) f)) := d_callB c_len hg T.len PySem.boot_len ha (by decide) (by decide) he hpl
theorem dSum (T : Blt X.mg) (hc : X.calm = true) (hg : Gl X "sum") {f : Env → Res (List PyData)} (ha : PA X [a] (tAS X.K mg E f)) (he : starEach [a] X.env = (false, eval a X.env) :: starEach [] X.env := by rfl) (hpl : (backTo pos (starEach [] X.env)).any (·.1) = false := by rfl) :
    PE X (.Call (.Name "sum" p) [a] [] pos) (tD X.K mg E (eCall (call1 sumD) f)) := d_callB (c_sum hc) hg T.sum (by decide +kernel) ha (by decide) (by decide) he hpl
theorem dSorted (T : Blt X.mg) (hr : Room k X.A) (hg : Gl X "sorted") {f : Env → Res (List PyData)} (ha : PA X [a] (tAS X.K mg E f)) (he : starEach [a] X.env = (false, eval a X.env) :: starEach [] X.env := by rfl) (hpl : (backTo pos (starEach [] X.env)).any (·.1) = false := by rfl) :
    PE X (.Call (.Name "sorted" p) [a] [] pos) (tD X.K mg E (eCall (call1 sortedD) f)) := d_callB (c_sorted (ru hr)) hg T.sorted (by decide +kernel) ha (by decide) (by decide) he hpl
theorem dMin2 (T : Blt X.mg) (hc : X.calm = true) (hg : Gl X "min") {f : Env → Res (List PyData)} (ha : PA X [a, b] (tAS X.K mg E f)) (he : starEach [a, b] X.env = (false, eval a X.env) :: starEach [b] X.env := by rfl) (hpl : (backTo pos (starEach [b] X.env)).any (·.1) = false := by rfl) :
    PE X (.Call (.Name "min" p) [a, b] [] pos) (tD X.K mg E (eCall (call2 min2D) f)) := d_callB (c_min2 hc) hg T.min (by decide +kernel) ha (by decide) (by decide) he hpl
theorem dMax2 (T : Blt X.mg) (hc : X.calm = true) (hg : Gl X "max") {f : Env → Res (List PyData)} (ha : PA X [a, b] (tAS X.K mg E f)) (he : starEach [a, b] X.env = (false, eval a X.env) :: starEach [b] X.env := by rfl) (hpl : (backTo pos (starEach [b] X.env)).any (·.1) = false := by rfl) :
    PE X (.Call (.Name "max" p) [a, b] [] pos) (tD X.K mg E (eCall (call2 max2D) f)) := d_callB (c_max2 hc) hg T.max (by decide +kernel) ha (by decide) (by decide) he hpl
theorem dTuple (T : Blt X.mg) (hg : Gl X "tuple") {f : Env → Res (List PyData)} (ha : PA X [a] (tAS X.K mg E f)) (he : starEach [a] X.env = (false, eval a X.env) :: starEach [] X.env := by rfl) (hpl : (backTo pos (starEach [] X.env)).any (·.1) = false := by rfl) :
    PE X (.Call (.Name "tuple" p) [a] [] pos) (tD X.K mg E (eCall (call1 tupD) f)) := d_callTy c_tuple hg T.tuple (by decide +kernel) ha (by decide) (by decide) he hpl
theorem dList (T : Blt X.mg) (hg : Gl X "list") {f : Env → Res (List PyData)} (ha : PA X [a] (tAS X.K mg E f)) (he : starEach [a] X.env = (false, eval a X.env) :: starEach [] X.env := by rfl) (hpl : (backTo pos (starEach [] X.env)).any (·.1) = false := by rfl) :
    PE X (.Call (.Name "list" p) [a] [] pos) (tD X.K mg E (eCall (call1 lstD) f)) := d_callTy c_list hg T.list (by decide +kernel) ha (by decide) (by decide) he hpl
theorem dInt (T : Blt X.mg) (hg : Gl X "int") {f : Env → Res (List PyData)} (ha : PA X [a] (tAS X.K mg E f)) (he : starEach [a] X.env = (false, eval a X.env) :: starEach [] X.env := by rfl) (hpl : (backTo pos (starEach [] X.env)).any (·.1) = false := by rfl) :
    PE X (.Call (.Name "int" p) [a] [] pos) (tD X.K mg E (eCall (call1 intofD) f)) := d_callTy c_int hg T.int (by decide +kernel) ha (by decide) (by decide) he hpl
theorem dStr (T : Blt X.mg) (hg : Gl X "str") {f : Env → Res (List PyData)} (ha : PA X [a] (tAS X.K mg E f)) (he : starEach [a] X.env = (false, eval a X.env) :: starEach [] X.env := by rfl) (hpl : (backTo pos (starEach [] X.env)).any (·.1) = false := by rfl) :
    PE X (.Call (.Name "str" p) [a] [] pos) (tD X.K mg E (eCall (call1 strofD) f)) := d_callTy c_str hg T.str (by decide +kernel) ha (by decide) (by decide) he hpl
theorem dIsI (T : Blt X.mg) {f : Env → Res PyData} (hg : Gl X "isinstance") (hgT : Gl X "int") (he : PE X e (tSh X.K mg E f))
    (hs : starEach [e, .Name "int" q] X.env = (false, eval e X.env) :: starEach [.Name "int" q] X.env := by rfl) (hpl : (backTo pos (starEach [.Name "int" q] X.env)).any (·.1) = false := by rfl) (hs2 : starEach [.Name "int" q] X.env = (false, eval (.Name "int" q) X.env) :: starEach [] X.env := by rfl) :
    PE X (.Call (.Name "isinstance" p) [e, .Name "int" q] [] pos) (tD X.K mg E (eIsi isI f)) := d_isi kitI he hg T.isinstance hgT T.int (by decide +kernel) (by decide) (by decide) hs hpl hs2
theorem dIsB (T : Blt X.mg) {f : Env → Res PyData} (hg : Gl X "isinstance") (hgT : Gl X "bool") (he : PE X e (tSh X.K mg E f))
    (hs : starEach [e, .Name "bool" q] X.env = (false, eval e X.env) :: starEach [.Name "bool" q] X.env := by rfl) (hpl : (backTo pos (starEach [.Name "bool" q] X.env)).any (·.1) = false := by rfl) (hs2 : starEach [.Name "bool" q] X.env = (false, eval (.Name "bool" q) X.env) :: starEach [] X.env := by rfl) :
    PE X (.Call (.Name "isinstance" p) [e, .Name "bool" q] [] pos) (tD X.K mg E (eIsi isB f)) := d_isi kitBo he hg T.isinstance hgT T.bool (by decide +kernel) (by decide) (by decide) hs hpl hs2
theorem dIsT (T : Blt X.mg) {f : Env → Res PyData} (hg : Gl X "isinstance") (hgT : Gl X "tuple") (he : PE X e (tSh X.K mg E f))
    (hs : starEach [e, .Name "tuple" q] X.env = (false, eval e X.env) :: starEach [.Name "tuple" q] X.env := by rfl) (hpl : (backTo pos (starEach [.Name "tuple" q] X.env)).any (·.1) = false := by rfl) (hs2 : starEach [.Name "tuple" q] X.env = (false, eval (.Name "tuple" q) X.env) :: starEach [] X.env := by rfl) :
    PE X (.Call (.Name "isinstance" p) [e, .Name "tuple" q] [] pos) (tD X.K mg E (eIsi isT f)) := d_isi kitT he hg T.isinstance hgT T.tuple (by decide +kernel) (by decide) (by decide) hs hpl hs2
theorem dIsS (T : Blt X.mg) {f : Env → Res PyData} (hg : Gl X "isinstance") (hgT : Gl X "str") (he : PE X e (tSh X.K mg E f))
    (hs : starEach [e, .Name "str" q] X.env = (false, eval e X.env) :: starEach [.Name "str" q] X.env := by rfl) (hpl : (backTo pos (starEach [.Name "str" q] X.env)).any (·.1) = false := by rfl) (hs2 : starEach [.Name "str" q] X.env = (false, eval (.Name "str" q) X.env) :: starEach [] X.env := by rfl) :
    PE X (.Call (.Name "isinstance" p) [e, .Name "str" q] [] pos) (tD X.K mg E (eIsi isS f)) := d_isi kitS he hg T.isinstance hgT T.str (by decide +kernel) (by decide) (by decide) hs hpl hs2
end
end DL

namespace DL
open PySem L2

/-! ### ascending ints -/
def insU (k : Int) : List Int → List Int
  | [] => [k]
  | x :: xs => if k < x then k :: x :: xs else if k = x then x :: xs else x :: insU k xs
def usort : List Int → List Int
  | [] => []
  | x :: xs => insU x (usort xs)
theorem mem_insU {k j : Int} : ∀ {xs : List Int}, j ∈ insU k xs ↔ j = k ∨ j ∈ xs
  | [] => by simp [insU]
  | x :: xs => by
    unfold insU
    split
    · simp
    · split
      · rename_i h; subst h; simp
      · rw [List.mem_cons, mem_insU, List.mem_cons]
        constructor
        · rintro (h | h | h)
          · exact .inr (.inl h)
          · exact .inl h
          · exact .inr (.inr h)
        · rintro (h | h | h)
          · exact .inr (.inl h)
          · exact .inl h
          · exact .inr (.inr h)
theorem insU_lt {k : Int} : ∀ {xs : List Int}, xs.Pairwise (· < ·) → (insU k xs).Pairwise (· < ·)
  | [], _ => List.pairwise_singleton _ _
  | x :: xs, h => by
    rw [List.pairwise_cons] at h
    unfold insU
    split
    · rename_i hk
      refine List.pairwise_cons.mpr ⟨fun y hy => ?_, List.pairwise_cons.mpr h⟩
      rcases List.mem_cons.mp hy with z | z
      · omega
      · have := h.1 y z; omega
    · split
      · exact List.pairwise_cons.mpr h
      · refine List.pairwise_cons.mpr ⟨fun y hy => ?_, insU_lt h.2⟩
        rcases mem_insU.mp hy with z | z
        · omega
        · exact h.1 y z
theorem usort_lt : ∀ xs : List Int, (usort xs).Pairwise (· < ·)
  | [] => .nil
  | _ :: xs => insU_lt (usort_lt xs)
theorem mem_usort {k : Int} : ∀ {xs : List Int}, k ∈ usort xs ↔ k ∈ xs
  | [] => Iff.rfl
  | x :: xs => by rw [usort, mem_insU, mem_usort, List.mem_cons]
theorem asc_unique : ∀ {xs ys : List Int}, xs.Pairwise (· < ·) → ys.Pairwise (· < ·) → (∀ k, k ∈ xs ↔ k ∈ ys) → xs = ys
  | [], [], _, _, _ => rfl
  | [], y :: ys, _, _, h => nomatch ((h y).mpr List.mem_cons_self)
  | x :: xs, [], _, _, h => nomatch ((h x).mp List.mem_cons_self)
  | x :: xs, y :: ys, hx, hy, h => by
    rw [List.pairwise_cons] at hx hy
    have e : x = y := by
      rcases List.mem_cons.mp ((h x).mp List.mem_cons_self) with z | z
      · exact z
      · rcases List.mem_cons.mp ((h y).mpr List.mem_cons_self) with z' | z'
        · exact z'.symm
        · have := hx.1 y z'; have := hy.1 x z; omega
    subst e
    rw [asc_unique hx.2 hy.2 fun k => ?_]
    constructor
    · intro hk
      rcases List.mem_cons.mp ((h k).mp (List.mem_cons_of_mem _ hk)) with z | z
      · have := hx.1 k hk; omega
      · exact z
    · intro hk
      rcases List.mem_cons.mp ((h k).mpr (List.mem_cons_of_mem _ hk)) with z | z
      · have := hy.1 k hk; omega
      · exact z
theorem asc_nodup {xs : List Int} (h : xs.Pairwise (· < ·)) : xs.Nodup := h.imp fun h => by omega
theorem usort_len {xs ys : List Int} (h : ys.Nodup) (m : ∀ k, k ∈ ys ↔ k ∈ xs) : ys.length = (usort xs).length := by
  have p : ys.Perm (usort xs) := (List.perm_ext_iff_of_nodup h (asc_nodup (usort_lt xs))).mpr fun k => by rw [m, mem_usort]
  exact p.length_eq

/-! ### set(xs) of a list of ints -/
abbrev emptySet (w : World) : Obj := { cls := .type "set", dict := none, data := .set #[] 0 (.fresh 0 0 (!w.params.followText "set-order")) }
section
open PySem.Spec PyProof.Rows
variable {P : Program} {w : World} {A : Around} {E : Value → Shared → Prop} {s : Shared}
set_option maxHeartbeats 3200000 in
theorem set_of_list {l : Addr} {its : Array Value} (ns : List Int) {Q : Value → Shared → Prop} (hand : A.handled = none) (isl : s.heap.IsList l its) (allI : IntsAre its.toList ns) (small : ns.length + 1 < scanBound)
    (fin : ∀ (h' : Heap) (tk c : Nat), SetR w h' s.heap.objs.size (fun j => decide (j ∈ ns)) c → c ≤ ns.length → (∀ b o, s.heap.get? b = some o → h'.get? b = some o) → Q (.ref s.heap.objs.size) { s with heap := h', toks := tk }) :
    wpAny (model P w) A (call (.type "set") [.ref l]) Q E s := by
  have sz : its.size = ns.length := by have q := IntsAre.length allI; rw [Array.length_toList] at q; exact q
  obtain ⟨c, tl, hmro⟩ := F.called_set.mro
  have f1 := F.called_set.made; have f2 := F.called_set.sub
  refine wpAny_call (codeAny_of_tree ?_); show wpAny _ _ (callAny (.type "set") _) _ _ _
  refine wpAny_pure ⟨Code.quiet_builtin _ (by decide +kernel), codeAny_builtin F.entry_type_call ?_⟩; rw [Around.under_plain (weight_type_call_type "set" [.ref l] []) rfl]
  have f3 := F.called_set.notType; have f4 := F.called_set.canCreate; have f5 := F.typeCall_set_1 (.ref l)
  repeat (any_goals (first | assumption | wp_step))
  refine codeAny_mono (code_set_led1 (.ref l) (E := E) (Q₁ := fun ob t => ob = .ref s.heap.objs.size ∧ t = { s with heap := s.heap.push (emptySet w) }) ⟨rfl, rfl⟩) fun r t hr => ?_
  cases r with
  | error e => exact hr
  | ok fl =>
    cases fl with
    | ret ob =>
      obtain ⟨rfl, rfl⟩ := hr
      have gS : (s.heap.push (emptySet w)).get? s.heap.objs.size = some (emptySet w) := Heap.get?_push_size _ rfl
      have tS : Shared.TypeIs { s with heap := s.heap.push (emptySet w) } (.ref s.heap.objs.size) "set" := ⟨_, gS, rfl⟩
      have f6 := F.called_set.init.lookup; have f7 := F.called_set.init.bind (.ref s.heap.objs.size)
      repeat (any_goals (first | assumption | wp_step))
      refine codeAny_mono (codeAny_call_builtin (R := wants (fun r t => r = .none ∧ ∃ h' tk c, t = { s with heap := h', toks := tk } ∧ SetR w h' s.heap.objs.size (fun j => decide (j ∈ ns)) c ∧ c ≤ ns.length ∧
          (∀ b o, s.heap.get? b = some o → h'.get? b = some o)) E) F.called_set.init.plain F.entry_set_init (check_set_init_1 tS ?_)) fun r2 t2 hr2 => ?_
      · obtain ⟨ol, gl, cl, nl, dl⟩ := isl
        obtain ⟨oc, od, oda, osl⟩ := ol
        simp only at cl dl
        subst cl dl
        have gl' : (s.heap.push (emptySet w)).get? l = some { cls := .type "list", dict := od, data := .seq its nl, slots := osl } := Heap.get?_push_of_some _ gl
        have f8 := F.sub_list_set; have f9 := F.sub_list_frozenset
        have ne : (Value.type "list" == Value.type "dict") = false := by decide
        have isl1 : (s.heap.push (emptySet w)).IsList l its := ⟨_, gl', rfl, nl, rfl⟩
        unfold Builtin.«set.__init__» noKeywords Builtin.Frozenset.updateFrom; generalize hPI : pyIter = PI
        wp_walk
        subst hPI
        refine wpAny_pyIter_list isl1 ?_
        refine wpAny_bind (wpAny_runValue ?_)
        have lS : l < s.heap.objs.size := Heap.lt_size gl
        have hand3 : A.in1.in1.in1.handled = none := by simp [hand]
        have neI : l ≠ (s.heap.push (emptySet w)).objs.size := by rw [Heap.size_push]; exact Nat.ne_of_lt (Nat.lt_succ_of_lt lS)
        have nin : s.heap.objs.size ∉ [(s.heap.push (emptySet w)).objs.size, l] := by
          rw [Heap.size_push]; simp only [List.mem_cons, List.mem_singleton, List.not_mem_nil, or_false, not_or]; exact ⟨Nat.ne_of_lt (Nat.lt_succ_self _), Nat.ne_of_gt lS⟩
        have vals : ∀ (i : Nat) (v : Value), its[i]? = some v → ∃ k t, ns[i]? = some k ∧ v = .int k t := fun i v hv => by
          have hi : i < ns.length := by rw [← sz]; exact (Array.getElem?_eq_some_iff.mp hv).1
          obtain ⟨t, e⟩ := PyProof.Rows.IntsAre.int_at allI i v (by rw [Array.getElem?_toList]; exact hv)
          exact ⟨ns[i], t, List.getElem?_eq_getElem hi, by rw [e, List.getD_eq_getElem?_getD, List.getElem?_eq_getElem hi] <;> rfl⟩
        refine set_update_ints ((Walks.list hand3 _ l neI its).toS) s.heap.objs.size nin ns sz small vals (its.size - 0) 0 _ (by omega) (Nat.zero_le _) ⟨⟨_, Heap.get?_push_size _ rfl, rfl, rfl⟩, (isl1.push _)⟩ ?z0 ?z1
        case z0 =>
          have g2 : ((s.heap.push (emptySet w)).push { cls := .type "list_iterator", data := .fields #[.ref l, .int 0 0] }).get? s.heap.objs.size = some (emptySet w) := Heap.get?_push_of_some _ gS
          exact ⟨0, Nat.le_refl 0, setR_new_at g2⟩
        case z1 =>
          intro s' c' hm hc' hS'
          obtain ⟨h', g2, d', tk', os'⟩ := s'
          have eg : g2 = s.gens := hm.gens; have ed : d' = s.drawn := hm.drawn; have eo : os' = s.os := hm.os
          subst eg ed eo
          show wpAny _ _ _ _ _ _
          refine wpAny_pure ?_
          show wpAny _ _ (ret Value.none) _ _ _
          rw [sz] at hc'
          refine wpAny_pure ⟨rfl, h', tk', c', rfl, hS', hc', fun b o e => ?_⟩
          have b0 : b < s.heap.objs.size := Heap.lt_size e
          have b2 : b ≠ (s.heap.push (emptySet w)).objs.size := by rw [Heap.size_push]; exact Nat.ne_of_lt (Nat.lt_succ_of_lt b0)
          exact hm.heap b o (by simp only [List.mem_cons, List.mem_singleton, List.not_mem_nil, or_false, not_or]; exact ⟨Nat.ne_of_lt b0, b2⟩) (Heap.get?_push_of_some _ (Heap.get?_push_of_some _ e))
      · cases r2 with
        | error e => exact hr2
        | ok fl2 =>
          cases fl2 with
          | ret r =>
            obtain ⟨rfl, h', tk, c', rfl, hS', hc', hk'⟩ := hr2
            repeat (any_goals (first | assumption | wp_step))
            exact fin _ _ _ hS' hc' hk'
          | _ => exact hr2.elim
    | _ => exact hr.elim
end

/-! ### sorted(set(x)), len(set(x)): ints -/
def intsOf : List PyData → Option (List Int)
  | [] => some []
  | .int i :: ds => (intsOf ds).map (i :: ·)
  | _ :: _ => none
theorem intsOf_eq : ∀ {ds : List PyData} {ns : List Int}, intsOf ds = some ns → ds = ns.map PyData.int
  | [], _, h => by cases h; rfl
  | d :: ds, ns, h => by
    cases d with
    | int i =>
      unfold intsOf at h
      cases q : intsOf ds with
      | none => rw [q] at h; cases h
      | some ms =>
        rw [q] at h
        cases h
        rw [intsOf_eq q]
        rfl
    | _ => cases h
theorem intsOf_map : ∀ (ns : List Int), intsOf (ns.map PyData.int) = some ns
  | [] => rfl
  | n :: ns => by rw [List.map_cons, intsOf, intsOf_map ns]; rfl
def setI : PyData → Option (List Int)
  | .list ds => (intsOf ds).bind fun ns => if ns.length < 64 then some ns else none
  | .tuple ds => (intsOf ds).bind fun ns => if ns.length < 64 then some ns else none
  | _ => none
theorem setI_lt {d : PyData} {ns : List Int} (h : setI d = some ns) : (d = .list (ns.map .int) ∨ d = .tuple (ns.map .int)) ∧ ns.length < 64 := by
  cases d with
  | list ds =>
    have h : ((intsOf ds).bind fun ns => if ns.length < 64 then some ns else none) = some ns := h
    cases q : intsOf ds with
    | none => rw [q] at h; cases h
    | some ms =>
      rw [q] at h
      have h : (if ms.length < 64 then some ms else none) = some ns := h
      split at h
      · rename_i hl
        cases h
        exact ⟨.inl (by rw [intsOf_eq q]), hl⟩
      · cases h
  | tuple ds =>
    have h : ((intsOf ds).bind fun ns => if ns.length < 64 then some ns else none) = some ns := h
    cases q : intsOf ds with
    | none => rw [q] at h; cases h
    | some ms =>
      rw [q] at h
      have h : (if ms.length < 64 then some ms else none) = some ns := h
      split at h
      · rename_i hl
        cases h
        exact ⟨.inr (by rw [intsOf_eq q]), hl⟩
      · cases h
  | _ => cases h
def eSortedSet (f : Env → Res PyData) : Env → Res PyData := fun ρ => (f ρ).bind fun d => match setI d with
  | some ns => .ok (.list ((usort ns).map .int))
  | none => .bad
def eLenSet (f : Env → Res PyData) : Env → Res PyData := fun ρ => (f ρ).bind fun d => match setI d with
  | some ns => .ok (.int (usort ns).length)
  | none => .bad
section
variable {X : Cx} {mg : Str → Option Value} {E : XK} {pos p p2 q : Pos} {a : Expr} {f : Env → Res PyData} {k : Nat}
theorem boot_set' : bootBuiltins "set" = some (.type "set") := PyProof.Rows.boot_set
/-- the set is built: what follows is told of it -/
theorem set_built {pins : List (Addr × Obj)} {σ : St} {H H0 B : Hp} {s : Shared} {v : V} {sl : Sl} {u : Value} {ns : List Int} {Q : Value → Shared → Prop} (hc : X.calm = true) (I : Inv X pins σ H s) (x : Ex H0 H) (h : SlOk X.K B H0 H v sl) (e : setI (dat sl) = some ns) (r : RelV v u)
    (fin : ∀ (h' : Heap) (tk c : Nat), SetR X.w h' s.heap.objs.size (fun j => decide (j ∈ ns)) c → c ≤ ns.length → (∀ b o, s.heap.get? b = some o → h'.get? b = some o) → Q (.ref s.heap.objs.size) { s with heap := h', toks := tk }) :
    wpAny (model X.prog X.w) X.A (call (.type "set") [u]) Q X.xe s := by
  obtain ⟨hd, hl⟩ := setI_lt e
  rcases hd with hd | hd
  · obtain ⟨b, us, ea, ha, la, da⟩ := h.lst x hd
    subst ea
    cases r
    obtain ⟨its, rv, pl, hz⟩ := I.list (SqL.of ha)
    have eus := da.ints_inv
    subst eus
    exact set_of_list ns (I.ok.hd hc) pl.isList (by simpa using rv.ints) (by unfold scanBound; omega) fin
  · obtain ⟨b, us, ea, ha, la, da⟩ := h.tup x hd
    subst ea
    cases r
    obtain ⟨its, rv, pl, hz⟩ := I.tuple (ha.sq)
    have eus := da.ints_inv
    subst eus
    exact call_set_tupI ns (I.ok.hd hc) pl (by simpa using rv.ints) (by unfold scanBound; omega) fin
theorem dLenSet (T : Blt X.mg) (hc : X.calm = true) (hg : Gl X "len") (hg2 : Gl X "set") (ha : PE X a (tSh X.K mg E f)) (na : starEach [a] X.env = (false, eval a X.env) :: starEach [] X.env := by rfl) :
    PE X (.Call (.Name "len" p) [.Call (.Name "set" p2) [a] [] q] [] pos) (tD X.K mg E (eLenSet f)) := by
  refine ⟨fun pins s σ H Q I ⟨B0, B, ρ, ts, ok, kk⟩ => ?_⟩
  refine PyProof.Rows.Call_ (ld_blt I hg T.len PySem.boot_len ?_)
  refine PyProof.Rows.callWith_builtin1 (PyProof.Rows.args_cons ?_ rfl) rfl rfl
  refine PyProof.Rows.Call_ (ld_blt I hg2 T.set boot_set' ?_)
  refine PyProof.Rows.callWith_type1 (PyProof.Rows.args_cons (thn (ha.run pins s σ H (fun v H' => ∃ sl d, sl ≠ .no ∧ dat sl = d ∧ SOk X.K B0 B ρ ((v, sl) :: ts) σ H' ∧ (match setI d with
      | some ns => Res.ok (PyData.int (usort ns).length)
      | none => .bad).go (fun d => ∀ v H', SOk X.K B0 B ρ ((v, .val d) :: ts) σ H' → Q v H') (Rz mg E B0 B)) I ⟨B0, B, ρ, ts, ok, kk.go_bind.go_mono fun d kd v sl H' ne e o => ⟨sl, d, ne, e, o, kd⟩⟩) fun u s1 ⟨v, H1, I1, r1, q1⟩ => PyProof.Rows.args_nil ?_) na) na rfl
  obtain ⟨sl, d, ne, e, o, kd⟩ := q1
  subst e
  cases hs : setI (dat sl) with
  | none => rw [hs] at kd; exact kd.bad
  | some ns =>
    rw [hs] at kd
    obtain ⟨H0, n, sS, t⟩ := id o
    refine set_built hc I1 n.b (t (v, sl) (by simp)) hs r1 fun h' tk c R hcn keep => PyProof.Rows.args_nil ?_
    obtain ⟨ob, es, ep, tb, ho, hex, hdt, g, nd, hm, hb, hf, hn, hr, hl⟩ := R
    have I2 : Inv X pins σ H1 { s1 with heap := h', toks := tk } := I1.kept keep
    have el : es.size = (usort ns).length := by
      rw [← usort_len nd fun k => by rw [← hm k, decide_eq_true_eq], List.length_map, Array.length_toList]
    have := (setI_lt hs).2
    have z : (usort ns).length < 64 := by rw [← el]; omega
    exact call_len_set ho hex hdt hf (by rw [el]; omega) ⟨.int (usort ns).length, H1, I2.tok _, ⟨_, by rw [el]⟩, kd.ok _ _ (mk_val n sS (fun p hp => t p (by simp [hp])) (.int _))⟩
theorem dSortedSet (T : Blt X.mg) (hrm : Room k X.A) (hc : X.calm = true) (hg : Gl X "sorted") (hg2 : Gl X "set") (ha : PE X a (tSh X.K mg E f)) (na : starEach [a] X.env = (false, eval a X.env) :: starEach [] X.env := by rfl) :
    PE X (.Call (.Name "sorted" p) [.Call (.Name "set" p2) [a] [] q] [] pos) (tD X.K mg E (eSortedSet f)) := by
  refine ⟨fun pins s σ H Q I ⟨B0, B, ρ, ts, ok, kk⟩ => ?_⟩
  refine PyProof.Rows.Call_ (ld_blt I hg T.sorted (by decide +kernel : bootBuiltins "sorted" = some (.builtin "sorted")) ?_)
  refine PyProof.Rows.callWith_builtin1 (PyProof.Rows.args_cons ?_ rfl) rfl rfl
  refine PyProof.Rows.Call_ (ld_blt I hg2 T.set boot_set' ?_)
  refine PyProof.Rows.callWith_type1 (PyProof.Rows.args_cons (thn (ha.run pins s σ H (fun v H' => ∃ sl d, sl ≠ .no ∧ dat sl = d ∧ SOk X.K B0 B ρ ((v, sl) :: ts) σ H' ∧ (match setI d with
      | some ns => Res.ok (PyData.list ((usort ns).map .int))
      | none => .bad).go (fun d => ∀ v H', SOk X.K B0 B ρ ((v, .val d) :: ts) σ H' → Q v H') (Rz mg E B0 B)) I ⟨B0, B, ρ, ts, ok, kk.go_bind.go_mono fun d kd v sl H' ne e o => ⟨sl, d, ne, e, o, kd⟩⟩) fun u s1 ⟨v, H1, I1, r1, q1⟩ => PyProof.Rows.args_nil ?_) na) na rfl
  obtain ⟨sl, d, ne, e, o, kd⟩ := q1
  subst e
  cases hs : setI (dat sl) with
  | none => rw [hs] at kd; exact kd.bad
  | some ns =>
    rw [hs] at kd
    obtain ⟨H0, n, sS, t⟩ := id o
    refine set_built hc I1 n.b (t (v, sl) (by simp)) hs r1 fun h' tk c R hcn keep => PyProof.Rows.args_nil ?_
    have I2 : Inv X pins σ H1 { s1 with heap := h', toks := tk } := I1.kept keep
    generalize hs2 : ({ s1 with heap := h', toks := tk } : Shared) = s2 at I2 ⊢
    have R : SetR X.w s2.heap s1.heap.objs.size (fun j => decide (j ∈ ns)) c := by rw [← hs2]; exact R
    have h64 := (setI_lt hs).2
    refine sorted_set R (I2.ok.hd hc) (by omega) fun s' pp out c2 ms k2 g2 o2 hp hg3 hi hsr hm hl => ?_
    have em : ms = usort ns := asc_unique hsr (usort_lt ns) fun j => by rw [hm j, mem_usort, decide_eq_true_eq]
    subst em
    have hlen : ((usort ns).map V.int).length ≤ sizeLine := by rw [List.length_map, hl, sizeLine_eq]; omega
    have hn : H1 pp = none := I2.hok.fresh hp
    have J : Inv X pins σ (upd H1 pp (.lst ((usort ns).map V.int))) { s2 with heap := s'.heap, gens := s'.gens, drawn := s'.drawn, toks := s'.toks } :=
      I2.call (ch := []) (Un.laid k2 hp hn) (I2.hok.laid k2 hp ⟨hlen, out.toList, c2, vals_of_ints hi, hg3⟩) (by rw [g2]; exact I2.bare) (fun _ z => nomatch z)
    have es : s' = { s2 with heap := s'.heap, gens := s'.gens, drawn := s'.drawn, toks := s'.toks } := by
      cases s'; cases s2; cases o2; rfl
    rw [es]
    exact ⟨.ref pp, _, J, rfl, kd.ok _ _ (mk_lst n sS (fun p hp => t p (by simp [hp])) (DqAll.ints _) hlen hn)⟩
end
end DL

namespace DL
open PySem L2

/-! ### try: .. except C1 as n: .. except C2 as n: .. -/
abbrev Sui : Type := Addr → Value → Option Addr → TS
def cutE (i : Nat) (D : Ends) : Ends := { nx := fun σ H => D.nx (σ.set i none) H, rt := D.rt, bk := fun σ H => D.bk (σ.set i none) H, ct := fun σ H => D.ct (σ.set i none) H }
def wAll (K : PySem.W.Frag) (Wo : WX) (D : Ends) (i : Nat) : List (Value × Sui) → WX
  | [] => Wo
  | (c, ts) :: r => fun cls d σ H => ∃ b, PySem.W.exmOne K cls c = some b ∧ (b = true → ∀ a, H a = none → ts a cls d (cutE i D) (σ.set i (some (.ref a))) H) ∧ (b = false → wAll K Wo D i r cls d σ H)
inductive Cls3 (X : Cx) (n : Str) : List ExceptHandler → List (Value × Sui) → Prop
  | nil : Cls3 X n [] []
  | cons {x : Str} {c : Value} {ts : Sui} {b₀ : Stmt} {su : List Stmt} {np ps : Pos} {hds : List ExceptHandler} {l : List (Value × Sui)} (nm : Names X x c)
      (run : ∀ (a : Addr) (oe : Obj) (cls : Value) (d : Option Addr) (pn : List (Addr × Obj)), Zc cls d oe → (∃ vs, oe.data = .fields vs) → PSs (X.suite a ((a, oe) :: pn)) (b₀ :: su) (ts a cls d)) (r : Cls3 X n hds l) :
      Cls3 X n (.ExceptHandler (some (.Name x np)) (some n) (b₀ :: su) ps :: hds) ((c, ts) :: l)
section
open PySem.Spec PyProof.Rows
variable {X : Cx} {n : Str} {i : Nat} {body : List Stmt} {h₀ : ExceptHandler} {hds : List ExceptHandler} {l : List (Value × Sui)} {pos : Pos} {tb : WX → TS} {Wo : WX}
theorem try_all (stk : X.stack = X.env :: X.outer) (frm : X.env.frame = some X.env.locals) (nd : X.N.Nodup) (hi : X.N[i]? = some n) (hln : X.env.kindOf n = some .local) (tk : Takes X Wo)
    (hb : ∀ (W : WX) (pn : List (Addr × Obj)) (xe : Value → Shared → Prop), Takes (X.tr pn xe) W → PassesOwn (model X.prog X.w) X.A X.env xe → PSs (X.tr pn xe) body (tb W))
    (hh : Cls3 X n (h₀ :: hds) l) : PS X (.Try body (h₀ :: hds) [] [] pos) (fun D σ H => tb (wAll X.K Wo D i l) D σ H) := by
  refine ⟨fun pins s σ H D I hyp => ?_⟩
  have okX := I.ok
  have frs' : X.A.frames = some (X.env :: X.outer) := by rw [okX.frames, stk]
  have locn : Loc X.env.scope n := .inl hln
  refine wpAny_Try_except (wpAny_mono ((hb (wAll X.K Wo D i l) (X.pn ++ pins) (fun e s₁ => wpAny (model X.prog X.w) X.A (noteFrame e X.env) (fun _ s₂ => wpAny (model X.prog X.w) X.A (setFlight e none) (fun _ s₃ =>
    wpAny (model X.prog X.w) X.A (handleBy e X.env (h₀ :: hds)) (SP X pins D) X.xe s₃) X.xe s₂) X.xe s₁) (fun u s' xx => ?_) PassesOwn.looking).run [] s σ H D (I.toTry _) hyp) (fun f s1 hsp => ?_) (fun e s1 he => he))
  · obtain ⟨a, B, sI, pins', σ', H', cls, d, rfl, Jt, nb, up, sky, na, os, ag, w⟩ := xx
    have J : Inv X pins σ' H' sI := Jt.ofTry okX
    have sky2 : Sky B (X.env :: X.outer) a (Zc cls d) X.env.locals s'.heap := by rw [← stk]; exact sky
    show wpAny (model X.prog X.w) X.A (noteFrame (.ref a) X.env) _ _ _
    refine Sky.land Zc.steady frs' frm sky2 fun h3 fl3 up3 => ?_
    have J3 : Inv X pins σ' H' { s' with heap := h3 } := J.landed nb fl3.1 (up.trans up3) os ag
    obtain ⟨oe3, vs3, he3, hz3, hd3⟩ := fl3.there
    have off : ∀ {h : Heap} {o : Obj} {vs : Array Value}, h.FunFrames B (X.env :: X.outer) → h.get? a = some o → o.data = .fields vs → a ∉ frs (X.env :: X.outer) := fun {h o vs} ff e dd hm => by
      obtain ⟨_, o', e', no⟩ := ff.mem hm
      rw [e] at e'; cases e'
      exact no _ dd
    have nfr := off fl3.2.2.1 he3 hd3
    have nL : a ≠ X.env.locals := fun z => nfr (List.mem_filterMap.mpr ⟨X.env, List.mem_cons_self, by rw [frm, z]⟩)
    have nF : a ∉ X.fs := fun hm => by
      obtain ⟨e, he, q⟩ := List.mem_filterMap.mp hm
      exact nfr (List.mem_filterMap.mpr ⟨e, List.mem_cons_of_mem _ he, q⟩)
    have S3 := J3.suite he3 hd3 na nL nF
    have go : ∀ {hs2 : List ExceptHandler} {l2 : List (Value × Sui)}, Cls3 X n hs2 l2 → wAll X.K Wo D i l2 cls d σ' H' →
        wpAny (model X.prog X.w) X.A (handleBy (.ref a) X.env hs2) (SP X pins D) X.xe { s' with heap := h3 } := by
      intro hs2 l2 hk
      induction hk with
      | nil =>
        intro w
        refine wpAny_handleBy_nil ?_
        obtain ⟨k1, k2, k3, oe, vs, T, oT, ts', he, hz, hd, h1, hr⟩ := id fl3
        unfold PySem.passOn
        refine wpAny_bind (wpAny_field he hd h1 ?_)
        rw [if_neg (show ¬ ((Value.ref T == Value.none) = true) from by simp)]
        have last : wpAny (model X.prog X.w) X.A (setFlight (.ref a) X.env.frame) (fun _ s4 => wpAny (model X.prog X.w) X.A (throw (.ref a) : Sem Flow) (SP X pins D) X.xe s4) X.xe { s' with heap := h3 } := by
          rw [frm]
          exact HandSPX.setFlight_upZ fl3 fun h4 hh4 up4 => wpAny_throw (tk _ _ ⟨a, B, sI, pins, σ', H', cls, d, rfl, J, nb, (up.trans up3).trans up4, .inr (.inr (by rw [stk]; exact hh4)), na, os, ag, w⟩)
        first
          | exact wpAny_bind (wpAny_pure (wpAny_bind last))
          | exact wpAny_bind last
      | @cons x c ts b₀ su np ps hds2 l3 nm run r ih =>
        intro w
        obtain ⟨b, hb1, hyes, hno⟩ := w
        refine wpAny_handleBy_cons (codeAny_handlers_test ?_) (by intro q; cases q)
        have LT : PySem.W.Looks (model X.prog X.w) h3 (typeOf (.ref a)) cls := fun A Q E s k q => wpAny_typeOf_ref (k _ _ he3) (by rw [hz3.1]; exact q)
        have LM := PySem.W.exm_one (M := model X.prog X.w) (J3.kIn) LT hb1
        have ask : ∀ {Q : Value → Shared → Prop} {E : Value → Shared → Prop}, Q c { s' with heap := h3 } → wpAny (model X.prog X.w) (X.A.mark (some (.ref a))) (eval (.Name x np) X.env) Q E { s' with heap := h3 } := fun {Q E} q => by
          obtain ⟨hg, hdbg, hm | ⟨hm, hv, hnn⟩⟩ := nm
          · exact ld_glob (X := X.suite a ((a, oe3) :: (X.pn ++ pins))) S3 hg hm q hdbg
          · exact ld_blt (X := X.suite a ((a, oe3) :: (X.pn ++ pins))) S3 hg hm hv q hnn hdbg
        refine ask (LM.here ?_)
        cases b with
        | true =>
          refine codeAny_handlers_suite_as (HandSPX.lands_againZ fl3 fun h4 fl4 up4 => ?_)
          have J4 : Inv X pins σ' H' { s' with heap := h4 } := J.landed nb fl4.1 ((up.trans up3).trans up4) os ag
          obtain ⟨oe4, vs4, he4, hz4, hd4⟩ := fl4.there
          have S4 := J4.suite he4 hd4 na nL nF
          refine store_ok (X := X.suite a ((a, oe4) :: (X.pn ++ pins))) (v := .ref a) S4 nd hi locn rfl (fun s5 S5 => ?_) (.inr hln)
          refine wpAny_mono ((run a oe4 cls d (X.pn ++ pins) hz4 ⟨_, hd4⟩).run [] s5 _ H' _ S5 (hyes rfl a na)) (fun f s6 hsp => ?_) (fun _ _ z => False.elim z)
          have fin6 : ∀ {σ6 : L2.St} {H6 : Hp} {Q : Shared → Prop}, Inv (X.suite a ((a, oe4) :: (X.pn ++ pins))) [] σ6 H6 s6 → (∀ s7, Inv X pins (σ6.set i none) H6 s7 → Q s7) →
              wpAny (model X.prog X.w) X.A (do bindName X.env n .none; unbindBehindTheSuite X.env n ps) (fun _ s7 => Q s7) X.xe s6 := fun {σ6 H6 Q} S6 hq => gone_ok (S6.unsuite okX) nd hi hln hq
          cases f with
          | next =>
            obtain ⟨σ6, H6, S6, q6⟩ := hsp
            exact fin6 S6 fun s7 J7 => ⟨_, _, J7, q6⟩
          | brk =>
            obtain ⟨σ6, H6, S6, q6⟩ := hsp
            exact fin6 S6 fun s7 J7 => ⟨_, _, J7, q6⟩
          | cont =>
            obtain ⟨σ6, H6, S6, q6⟩ := hsp
            exact fin6 S6 fun s7 J7 => ⟨_, _, J7, q6⟩
          | ret u =>
            obtain ⟨v6, σ6, H6, S6, r6, q6⟩ := hsp
            exact fin6 S6 fun s7 J7 => ⟨_, _, _, J7, r6, q6⟩
        | false =>
          show wpAny _ X.A (handleBy (.ref a) X.env hds2) _ _ _
          exact ih (hno rfl)
    exact go hh w
  · cases f with
    | next =>
      obtain ⟨σ', H', J', q⟩ := hsp
      exact wpAny_execs_nil ⟨σ', H', J'.ofTry okX, q⟩
    | brk =>
      obtain ⟨σ', H', J', q⟩ := hsp
      exact ⟨σ', H', J'.ofTry okX, q⟩
    | cont =>
      obtain ⟨σ', H', J', q⟩ := hsp
      exact ⟨σ', H', J'.ofTry okX, q⟩
    | ret u =>
      obtain ⟨v, σ', H', J', r, q⟩ := hsp
      exact ⟨v, σ', H', J'.ofTry okX, r, q⟩
end

/-! ### 'told' if isinstance(e, M) and (not isinstance(e, B)) else 'other' -/
/-- what a class of exceptions says of the two classes that the clause asks -/
structure ExcQ (K : PySem.W.Frag) (mg : Str → Option Value) (c m b : Str) : Prop where
  gc : mg c = some (.ref (ca mg c))
  gm : mg m = some (.ref (ca mg m))
  gb : mg b = some (.ref (ca mg b))
  ec : ExcC K (ca mg c)
  km : PySem.W.kitOne K (.ref (ca mg c)) (.ref (ca mg m)) = some true
  kb : PySem.W.kitOne K (.ref (ca mg c)) (.ref (ca mg b)) = some false
/-- the clause's end: the exception is of the class at C, what is returned is told by k -/
def tTold (C : Addr) (i : Nat) (k : PyData) (K : PySem.W.Frag) : Sui := fun a cls d D σ H => cls = .ref C ∧ d = none ∧ σ[i]? = some (some (.ref a)) ∧ ∀ v, (∀ H0, Dq K H0 v k) → D.rt v H
section
variable {X : Cx} {c m b z1 z2 n : Str} {i : Nat}
theorem isE {a : Addr} {oe : Obj} {pn : List (Addr × Obj)} {C D : Addr} {x : Str} {bb : Bool} {p p2 p3 q : Pos} (ec : ExcC X.K C) (hz : Zc (.ref C) none oe) (hf : ∃ vs, oe.data = .fields vs) (hN : X.N[i]? = some n) (hv : Vis X.env.scope n) (gx : X.mg x = some (.ref D)) (kx : PySem.W.kitOne X.K (.ref C) (.ref D) = some bb) (T : Blt X.mg) (g1 : Gl X "isinstance") (g2 : Gl X x)
    (hd1 : (n == ("__debug__" : Str)) = false) (hd2 : (n == ("__classdict__" : Str)) = false) (hd3 : (x == ("__debug__" : Str)) = false)
    (he : starEach [.Name n p2, .Name x p3] X.env = (false, eval (.Name n p2) X.env) :: starEach [.Name x p3] X.env) (hpl : (backTo q (starEach [.Name x p3] X.env)).any (·.1) = false) (hs2 : starEach [.Name x p3] X.env = (false, eval (.Name x p3) X.env) :: starEach [] X.env) :
    PT (X.suite a ((a, oe) :: pn)) (.Call (.Name "isinstance" p) [.Name n p2, .Name x p3] [] q) (fun σ H Q => σ[i]? = some (some (.ref a)) ∧ Q bb H) :=
  pt_weak (pt_val (pe_callB (X := X.suite a ((a, oe) :: pn)) (call_isE ec hz hf) g1 T.isinstance (by decide +kernel) (pa_cons (pe_var (i := i) hN hv hd1 hd2) (pa_cons (pe_glob (v := .ref D) g2 gx rfl hd3) pa_nil hs2) he) (by decide) (by decide) he hpl)) fun σ H Q ⟨h1, h2⟩ =>
    ⟨_, h1, _, _, bb, rfl, fun u r => by cases r; rfl, kx, bb, rfl, h2⟩
theorem told_ps {i : Nat} {d1 d2 : Expr} {k : PyData} {p p2 p3 p4 p5 p6 q q2 q3 q4 : Pos} {q5 : Pos} (E : ExcQ X.K X.mg c m b) (T : Blt X.mg) (hN : X.N[i]? = some n) (hv : Vis X.env.scope n) (g1 : Gl X "isinstance") (g2 : Gl X m) (g3 : Gl X b)
    (ha : ∀ (a : Addr) (oe : Obj) (pn : List (Addr × Obj)), Zc (.ref (ca X.mg c)) none oe → (∃ vs, oe.data = .fields vs) → PE (X.suite a ((a, oe) :: pn)) d1 (fun σ H Q => σ[i]? = some (some (.ref a)) ∧ ∀ v, (∀ H0, Dq X.K H0 v k) → Q v H)) (hb' : ∀ (a : Addr) (oe : Obj) (pn : List (Addr × Obj)), ∃ t, PE (X.suite a ((a, oe) :: pn)) d2 t)
    (hd1 : (n == ("__debug__" : Str)) = false := by decide) (hd2 : (n == ("__classdict__" : Str)) = false := by decide) (hd3 : (m == ("__debug__" : Str)) = false := by decide) (hd4 : (b == ("__debug__" : Str)) = false := by decide)
    (e1 : starEach [.Name n p2, .Name m p3] X.env = (false, eval (.Name n p2) X.env) :: starEach [.Name m p3] X.env := by rfl) (e2 : (backTo q (starEach [.Name m p3] X.env)).any (·.1) = false := by rfl) (e3 : starEach [.Name m p3] X.env = (false, eval (.Name m p3) X.env) :: starEach [] X.env := by rfl)
    (e4 : starEach [.Name n p5, .Name b p6] X.env = (false, eval (.Name n p5) X.env) :: starEach [.Name b p6] X.env := by rfl) (e5 : (backTo q2 (starEach [.Name b p6] X.env)).any (·.1) = false := by rfl) (e6 : starEach [.Name b p6] X.env = (false, eval (.Name b p6) X.env) :: starEach [] X.env := by rfl)
    (a : Addr) (oe : Obj) (cls : Value) (d : Option Addr) (pn : List (Addr × Obj)) (hz : Zc cls d oe) (hf : ∃ vs, oe.data = .fields vs) :
    PSs (X.suite a ((a, oe) :: pn)) [.Return (some (.IfExp (.BoolOp .And [.Call (.Name "isinstance" p) [.Name n p2, .Name m p3] [] q, .UnaryOp .Not (.Call (.Name "isinstance" p4) [.Name n p5, .Name b p6] [] q2) q3] q4) d1 d2 q5)) pos] (tTold (ca X.mg c) i k X.K a cls d) := by
  refine ⟨fun pins s σ H D I ⟨h1, h2, h3, h4⟩ => ?_⟩
  subst h1 h2
  obtain ⟨t2, hb2⟩ := hb' a oe pn
  have t1 := isE (X := X) (i := i) (n := n) (a := a) (oe := oe) (pn := pn) (p := p) (p2 := p2) (p3 := p3) (q := q) E.ec hz hf hN hv E.gm E.km T g1 g2 hd1 hd2 hd3 e1 e2 e3
  have t2' := isE (X := X) (i := i) (n := n) (a := a) (oe := oe) (pn := pn) (p := p4) (p2 := p5) (p3 := p6) (q := q2) E.ec hz hf hN hv E.gb E.kb T g1 g3 hd1 hd2 hd4 e4 e5 e6
  exact (pss_one (ps_ret (pe_ifExp (PW.pt (pw_and t1 (pw_and1 (pt_not t2')))) (ha a oe pn hz hf) hb2))).run pins s σ H D I ⟨h3, h3, h3, h4⟩
end

/-! ### the try in the layer -/
def sTry (hs : List (Str × PyData)) (S : Env → RS) : Env → RS := fun ρ => match S ρ with
  | .err x => (match hs.lookup x with
    | some d => .ret d
    | none => .bad)
  | r => r
theorem takes_len {X : Cx} {W : WX} (t : Takes X W) : Takes X (fun c d σ H => σ.length = X.N.length → W c d σ H) := fun u s' ⟨a, B, sI, pins, σ, H, cls, d, e, I, nb, up, sky, na, os, ag, w⟩ =>
  t u s' ⟨a, B, sI, pins, σ, H, cls, d, e, I, nb, up, sky, na, os, ag, w I.len⟩
/-- the wish within the try's body -/
def EW (n : Nat) (W : WX) : XK := fun cls d H => ∀ σ : St, σ.length = n → W cls d σ H
theorem takes_EW {X : Cx} {W : WX} (t : Takes X W) : Takes X (fun cls d _ H => EW X.N.length W cls d H) := (takes_len t).imp fun c d σ H h hl => h σ hl
/-- one clause by its name: the class's address, what it tells -/
def cl1 (mg : Str → Option Value) (K : PySem.W.Frag) (i : Nat) (p : Str × PyData) : Value × Sui := (.ref (ca mg p.1), tTold (ca mg p.1) i p.2 K)
/-- which exceptions may come: the clauses tell them apart -/
structure Apt (K : PySem.W.Frag) (mg : Str → Option Value) (hs : List (Str × PyData)) : Prop where
  ap : ∀ x ∈ hs.map (·.1), ∀ y ∈ hs.map (·.1), PySem.W.exmOne K (.ref (ca mg x)) (.ref (ca mg y)) = some (x == y)
theorem wAll_go {K : PySem.W.Frag} {mg : Str → Option Value} {Wo : WX} {D : Ends} {i : Nat} {x : Str} {k : PyData} {σ : St} {H : Hp} (hi : i < σ.length) (hrt : ∀ v, (∀ H0, Dq K H0 v k) → D.rt v H) :
    ∀ {hs : List (Str × PyData)}, hs.lookup x = some k → (∀ y ∈ hs.map (·.1), PySem.W.exmOne K (.ref (ca mg x)) (.ref (ca mg y)) = some (x == y)) → wAll K Wo D i (hs.map (cl1 mg K i)) (.ref (ca mg x)) none σ H
  | [], h, _ => by cases h
  | (y, e) :: hs, h, ap => by
    have q := ap y (by simp)
    rw [List.lookup_cons] at h
    refine ⟨x == y, q, fun hb a ha => ?_, fun hb => ?_⟩
    · rw [hb] at h
      cases h
      have exy : x = y := eq_of_beq hb
      subst exy
      exact ⟨rfl, rfl, List.getElem?_set_self hi, hrt⟩
    · rw [hb] at h
      exact wAll_go hi hrt h fun z hz => ap z (by simp only [List.map_cons, List.mem_cons]; exact .inr hz)
theorem lookup_mem {x : Str} {k : PyData} : ∀ {hs : List (Str × PyData)}, hs.lookup x = some k → x ∈ hs.map (·.1)
  | [], h => by cases h
  | (y, e) :: hs, h => by
    rw [List.lookup_cons] at h
    cases hb : x == y with
    | true => simp [eq_of_beq hb]
    | false =>
      rw [hb] at h
      simp only [List.map_cons, List.mem_cons]
      exact .inr (lookup_mem h)
theorem s_try {X : Cx} {E : XK} {n : Str} {i : Nat} {body : List Stmt} {h₀ : ExceptHandler} {hds : List ExceptHandler} {pos : Pos} {hs : List (Str × PyData)} {S : Env → RS} (stk : X.stack = X.env :: X.outer) (frm : X.env.frame = some X.env.locals) (nd : X.N.Nodup) (hi : X.N[i]? = some n) (hln : X.env.kindOf n = some .local) (tk : Takes X (fun cls d _ H => E cls d H))
    (ap : Apt X.K X.mg hs) (hpl : hs.all (fun p => lineOf p.1 == none) = true)
    (hb : ∀ (E' : XK) (pn : List (Addr × Obj)) (xe : Value → Shared → Prop), Takes (X.tr pn xe) (fun cls d _ H => E' cls d H) → PassesOwn (model X.prog X.w) X.A X.env xe → PSs (X.tr pn xe) body (tS X.K X.mg E' S))
    (hh : Cls3 X n (h₀ :: hds) (hs.map (cl1 X.mg X.K i))) : PS X (.Try body (h₀ :: hds) [] [] pos) (tS X.K X.mg E (sTry hs S)) := by
  refine ps_weak (try_all (tb := fun W => tS X.K X.mg (EW X.N.length W) S) stk frm nd hi hln tk (fun W pn xe t po => hb _ pn xe (takes_EW (X := X.tr pn xe) t) po) hh) fun D σ H ⟨B0, B, ρ, ts, ok, av, q⟩ => ⟨B0, B, ρ, ts, ok, av, ?_⟩
  refine ⟨?_⟩
  have q := q.out
  unfold sTry at q
  cases hS : S ρ with
  | err x =>
    rw [hS] at q
    cases hl : hs.lookup x with
    | none => simp only [hl] at q; exact q.elim
    | some k =>
      simp only [hl] at q
      have hx := lookup_mem hl
      obtain ⟨pp, hpp, epp⟩ := List.mem_map.mp hx
      have hnl : lineOf x = none := by rw [← epp]; exact eq_of_beq (List.all_eq_true.mp hpl pp hpp)
      refine Rz.of (fun _ => ?_) fun l q => by rw [hnl] at q; cases q
      intro H0 H' nw σ' hlen
      refine wAll_go (by rw [hlen]; exact (List.getElem?_eq_some_iff.mp hi).1) (fun v dv => q v H0 H' nw (dv H0)) hl fun y hy => ap.ap x hx y hy
  | nx ρ' => rw [hS] at q; exact q
  | ret d => rw [hS] at q; exact q
  | brk ρ' => rw [hS] at q; exact q
  | cnt ρ' => rw [hS] at q; exact q
  | bad => rw [hS] at q; exact q
end DL

namespace DL
open PySem L2

/-! ### facts of the written part -/
def excCB (K : PySem.W.Frag) (D : Addr) : Bool := He.eqO (PySem.W.findIn K (.ref D) "__getattribute__") (some (some (.builtin "BaseException.__getattribute__"))) && (He.eqO (PySem.W.findIn K (.ref D) "__getattr__") (some none) &&
  (decide (PySem.W.subIn K (.ref D) (.type "BaseException") = some true) && (PySem.W.hasDictIn K D && (He.eqO (PySem.W.findIn K (.ref D) "__class__") (some (some (.builtin "object.__class__"))) &&
  (He.eqO (PySem.W.specialIn K (.builtin "object.__class__") "__get__") (some (some (.builtin "getset_descriptor.__get__"))) && (decide (PySem.W.takesIn K (.builtin "object.__class__") = some true) && decide (PySem.W.mroIn K D (.type "object") = some true)))))))
theorem excCB_ok {K : PySem.W.Frag} {D : Addr} (h : excCB K D = true) : ExcC K D := by
  obtain ⟨h1, h⟩ := He.ba h
  obtain ⟨h2, h⟩ := He.ba h
  obtain ⟨h3, h⟩ := He.ba h
  obtain ⟨h4, h⟩ := He.ba h
  obtain ⟨h5, h⟩ := He.ba h
  obtain ⟨h6, h⟩ := He.ba h
  obtain ⟨h7, h8⟩ := He.ba h
  exact ⟨He.eqO_ok h1, He.eqO_ok h2, of_decide_eq_true h3, h4, He.eqO_ok h5, He.eqO_ok h6, of_decide_eq_true h7, of_decide_eq_true h8⟩
/-- the class c, asked for m (yes) and b (no) -/
def excQB (K : PySem.W.Frag) (c m b : Str) : Bool := excCB K (He.ga K c) && (decide (PySem.W.kitOne K (.ref (He.ga K c)) (.ref (He.ga K m)) = some true) && decide (PySem.W.kitOne K (.ref (He.ga K c)) (.ref (He.ga K b)) = some false))
section
variable {K : PySem.W.Frag} {h : Heap} {mg : Str → Option Value}
theorem ca_ga {x : Str} (g : mg x = some (.ref (He.ga K x))) : ca mg x = He.ga K x := ca_of g
theorem excQ_of {c m b : Str} (q : excQB K c m b = true) (gc : mg c = some (.ref (He.ga K c))) (gm : mg m = some (.ref (He.ga K m))) (gb : mg b = some (.ref (He.ga K b))) : ExcQ K mg c m b := by
  obtain ⟨h1, h2⟩ := He.ba q
  obtain ⟨h2, h3⟩ := He.ba h2
  have e1 := ca_ga gc
  have e2 := ca_ga gm
  have e3 := ca_ga gb
  exact ⟨by rw [e1]; exact gc, by rw [e2]; exact gm, by rw [e3]; exact gb, by rw [e1]; exact excCB_ok h1, by rw [e1, e2]; exact of_decide_eq_true h2, by rw [e1, e3]; exact of_decide_eq_true h3⟩
theorem excT_of {x : Str} (q : (He.Fa.exc x).ok K = true) (g : mg x = some (.ref (He.ga K x))) : ExcT K mg x := by
  obtain ⟨h1, h2, h3, h4⟩ := He.exc_ok q
  exact ⟨_, g, h1, h2, h3, h4⟩
theorem apt1 {c : Str} {d : PyData} (g : mg c = some (.ref (He.ga K c))) (q : (He.Fa.exm c c true).ok K = true) : Apt K mg [(c, d)] := ⟨fun x hx y hy => by
  simp only [List.map_cons, List.map_nil, List.mem_singleton] at hx hy
  subst hx hy
  rw [ca_ga g, beq_self_eq_true]
  exact He.exm_ok q⟩
theorem apt2 {c c' : Str} {d d' : PyData} (ne : (c == c') = false) (g : mg c = some (.ref (He.ga K c))) (g' : mg c' = some (.ref (He.ga K c'))) (q1 : (He.Fa.exm c c true).ok K = true) (q2 : (He.Fa.exm c' c' true).ok K = true) (q3 : (He.Fa.exm c c' false).ok K = true) (q4 : (He.Fa.exm c' c false).ok K = true) : Apt K mg [(c, d), (c', d')] := ⟨fun x hx y hy => by
  have ne2 : c ≠ c' := beq_eq_false_iff_ne.mp ne
  have ne3 : (c' == c) = false := beq_eq_false_iff_ne.mpr (Ne.symm ne2)
  simp only [List.map_cons, List.map_nil, List.mem_cons, List.not_mem_nil, or_false] at hx hy
  rcases hx with hx | hx <;> rcases hy with hy | hy <;> subst hx <;> subst hy
  · rw [ca_ga g, beq_self_eq_true]; exact He.exm_ok q1
  · rw [ca_ga g, ca_ga g', ne]; exact He.exm_ok q3
  · rw [ca_ga g, ca_ga g', ne3]; exact He.exm_ok q4
  · rw [ca_ga g', beq_self_eq_true]; exact He.exm_ok q2⟩
end
/-! ### the Hook: facts, one more Bool, defs -/
def obsE (fa : List He.Fa) (ex : PySem.W.Frag → Bool) (fn : List He.DefD) (K : PySem.W.Frag) : He.AlD := ((fa.all fun f => f.ok K) && (ex K && fn.all fun d => d.ok K), fn.map fun d => He.fnW K d.at_)
def SaysE (fa : List He.Fa) (ex : PySem.W.Frag → Bool) (fn : List He.DefD) (K : PySem.W.Frag) : Prop := obsE fa ex fn K = He.valD fn
def obsEG (n : Nat) (fa : List He.Fa) (ex : PySem.W.Frag → Bool) (fn : List He.DefD) (g : Addr → Option Obj) : He.AlD := obsE fa ex fn (He.frG g (He.asD g n ++ [cStatics]))
def hookE (n : Nat) (fa : List He.Fa) (ex : PySem.W.Frag → Bool) (fn : List He.DefD) : PySem.W.Hook where
  α := He.AlD
  obs := fun s => obsEG n fa ex fn s.heap.get?
  val := fun _ => He.valD fn
  says := fun _ h => ∃ K : PySem.W.Frag, K.In h ∧ SaysE fa ex fn K
  of := fun _ _ e => ⟨_, He.frG_in, e⟩
  keeps := fun _ _ _ ⟨K, hK, c⟩ k => ⟨K, PySem.W.Frag.In.keeps hK k, c⟩
theorem obsEG_eq {n : Nat} {fa : List He.Fa} {ex : PySem.W.Frag → Bool} {fn : List He.DefD} {g : Addr → Option Obj} {s : Shared} (h : ∀ a, g a = s.heap.get? a) : obsEG n fa ex fn g = (hookE n fa ex fn).obs s := by
  have e : g = s.heap.get? := funext h
  rw [e] <;> rfl
section
variable {fa : List He.Fa} {ex : PySem.W.Frag → Bool} {fn : List He.DefD} {K : PySem.W.Frag}
theorem SaysE.both (c : SaysE fa ex fn K) : ((fa.all fun f => f.ok K) && (ex K && fn.all fun d => d.ok K)) = true := congrArg (fun z : He.AlD => z.1) c
theorem SaysE.more (c : SaysE fa ex fn K) : ex K = true := (He.ba (He.ba c.both).2).1
theorem SaysE.fact (c : SaysE fa ex fn K) (i : Nat) {f : He.Fa} (h : fa[i]? = some f := by rfl) : f.ok K = true := List.all_eq_true.mp (He.ba c.both).1 f (List.mem_of_getElem? h)
theorem SaysE.says (c : SaysE fa ex fn K) : He.SaysD [] fn K := by
  have c2 := (He.ba (He.ba c.both).2).2
  have e : fn.map (fun d => He.fnW K d.at_) = fn.map He.DefD.val := congrArg (fun z : He.AlD => z.2) c
  show ((([] : List He.Fa).all fun f => f.ok K) && fn.all fun d => d.ok K, fn.map fun d => He.fnW K d.at_) = He.valD fn
  rw [c2, e]
  rfl
/-- a def of the row's top, by its place -/
def dD (x : Str) (st : Stmt) : He.DefD := ⟨(x, none), x, x, defArgs st, defBody st, defScope st, [], []⟩
theorem SaysE.fun_ (c : SaysE fa ex fn K) (i : Nat) {x : Str} {st : Stmt} (h : fn[i]? = some (dD x st) := by rfl) : ∃ fd, Fun K x x st (He.ga K x) fd := by
  obtain ⟨fd, F⟩ := c.says.def_ i (d := dD x st) h
  exact ⟨fd, He5.fun_of F⟩
theorem SaysE.funD (c : SaysE fa ex fn K) (i : Nat) {x : Str} {st : Stmt} (h : fn[i]? = some (dD x st) := by rfl) : ∃ fd, FunD K x x (defArgs st) (defBody st) (defScope st) [] [] (He.ga K x) fd := c.says.def_ i (d := dD x st) h
end
section
variable {P : Program} {w : World} {K : PySem.W.Frag} {mg : Str → Option Value} {base : Heap}
/-- never reached -/
theorem def_bad {x qual : Str} {st : Stmt} {f : Addr} {fd : FuncData} {N ps : List Str} {k : Nat} (F : Fun K x qual st f fd) (sc : FnScope N ps (defScope st)) : FnOk P w K mg base (L2.CX P w) (k + 1) f fd ps (spD K mg fun _ => .bad) :=
  F.okX sc (fun vs H Q E ⟨_, _, _, _, kk⟩ => kk.bad) fun cdv A outer s H vs Q E hr ⟨_, _, _, _, kk⟩ => kk.bad
theorem cal_of {x : Str} {st : Stmt} {f : Addr} {fd : FuncData} {ps : List Str} {k : Nat} {F : List PyData → Res PyData} (Fn : Fun K x x st f fd) (hm : mg x = some (.ref f)) (G : FnOk P w K mg base (L2.CX P w) k f fd ps (spD K mg F)) (hb : Binds K fd ps []) : Cal P w K mg base k x ps F := ⟨f, fd, G, hm, Fn.kp, hb⟩
/-- the law's promise -/
theorem law_sp {F : List PyData → Res PyData} {n : Nat} (law : ∀ ns : List Int, ns.length ≤ n → F [scrD ns] = .ok (.bool true)) (H : Hp) (a : Addr) (ns : List Int) (hl : ns.length ≤ n) (hS : SqL K H a (ns.map V.int)) : spD K mg F [.ref a] H (fun v _ => v = .bl true) fun _ _ _ => False := by
  refine ⟨H, [scrD ns], Ex.refl H, .cons (.scr ns hS) .nil, ?_⟩
  rw [law ns hl]
  exact ⟨fun v B0' H' n' dv => by cases dv; rfl⟩
theorem cx_no (H : Hp) (s : Shared) (e : Value) (s' : Shared) (h : L2.CX P w [] H s (fun _ _ _ => False) e s') : False := by
  obtain ⟨_, _, _, _, _, _, _, _, _, _, _, _, z⟩ := h
  exact z
theorem told_str {X : Cx} {i : Nat} {a : Addr} {z : Str} {j : Nat} {pos : Pos} (hz : z.length ≤ sizeLine := by decide) : PE X (.Constant (.str z) j pos) (fun σ H Q => σ[i]? = some (some (.ref a)) ∧ ∀ v, (∀ H0, Dq X.K H0 v (.str z)) → Q v H) :=
  pe_weak pe_str fun σ H Q ⟨_, h⟩ => h (.str z) fun _ => .str z hz
end
theorem fun_same {K : PySem.W.Frag} {x y q r : Str} {st su : Stmt} {f : Addr} {fd fe : FuncData} (F : Fun K x q st f fd) (G : Fun K y r su f fe) : fd = fe := by
  obtain ⟨oc, od, kV, doc, pm, an, cdv, ct, osl, e, l, c⟩ := F.ex
  obtain ⟨oc', od', kV', doc', pm', an', cdv', ct', osl', e', l', c'⟩ := G.ex
  rw [l] at l'
  cases l'
  rfl
/-- the law's end: the wish about exceptions may be the world's -/
theorem walk_w {l : PySem.W.OpenLaw} {n k : Nat} {q : Program} {loose : List Str} {XP : (Str → Option Value) → Heap → Prop} {YP : World → Heap → Prop} {d : DefRec} {CX : World → CXT} {x : Str} (most : l.most = some n) (few : n ≤ sizeLine) (nodef : d.params.defaults = []) (rm : Room k callerA)
    (F : ∀ (w : World) (mg : Str → Option Value) (fa : Addr) (h : Heap), YP w h → h.Ns mainGlobals mg → mg d.name = some (.ref fa) → ∃ (K : PySem.W.Frag) (fd : FuncData) (sp : Sp), K.In h ∧ (∀ (s : Shared) (u : Value), BindsTo s fd ⟨[u], []⟩ [(x, u)]) ∧
        (∀ (H : Hp) (a : Addr) (ns : List Int), ns.length ≤ n → Only H → SqL K H a (ns.map V.int) → sp [.ref a] H (fun v _ => v = .bl true) fun _ _ _ => False) ∧ ∀ base : Heap, K.In base → base.Ns mainGlobals mg → FnOk l.prog w K mg base (CX w) k fa fd [x] sp)
    (none_ : ∀ (w : World) (H : Hp) (s : Shared) (e : Value) (s' : Shared), CX w [] H s (fun _ _ _ => False) e s' → False) : PySem.W.WalkO q loose XP YP l.row.toRowW d [] (fun f vs => PySem.call f vs) := by
  refine Att.attach_call most nodef fun w s₀ s₁ mg mb fa o pm cd doc a vs ns G Y ho hd hcd hmg hobj hints hlen hg => ?_
  obtain ⟨K, fd, sp, inK, bd, prom, ok⟩ := F w mg fa _ Y G.T.g hmg
  exact law_call inK G.T.g G.T.b G.T.builtins G.T.nolimit hg hobj hints (Nat.le_trans hlen few) rm ok bd (fun H hO hS => prom H a ns hlen hO hS) fun H e s' => none_ w H s₁ e s'
end DL

namespace DL
open PySem L2

/-! ### min(xs) of a list of alike data -/
def minOk (ds : List PyData) : Bool := PyData.plainAll ds && (alikeB ds && (!ds.any isNon && decide (PyData.depthAll ds ≤ 64)))
def minLD : PyData → Res PyData
  | .list (x :: xs) => if minOk (x :: xs) = true then .ok (PySem.W.minD x xs) else .bad
  | _ => .bad
section
variable {X : Cx} {mg : Str → Option Value} {E : XK}
theorem minOk_parts {ds : List PyData} (h : minOk ds = true) : PyData.plainAll ds = true ∧ PySem.W.AlikeAll ds ∧ PyData.depthAll ds ≤ 64 := by
  unfold minOk at h
  simp only [Bool.and_eq_true, Bool.not_eq_true', decide_eq_true_eq] at h
  obtain ⟨h1, h2, h3, h4⟩ := h
  refine ⟨h1, ⟨fun x hx y hy => ?_, fun x hx e => ?_⟩, h4⟩
  · unfold alikeB at h2
    exact List.all_eq_true.mp (List.all_eq_true.mp h2 x hx) y hy
  · subst e
    rw [List.any_eq_false] at h3
    exact h3 _ hx rfl
theorem c_minL (hc : X.calm = true) (hu : X.A.units + 66 < cLine) : CallR X (.builtin "min") (rDC X.K mg E (call1 minLD)) := by
  intro pins s σ H xs us Q I r ⟨B0, B, ρ, ts, σ', ss, hl, ok, hn, k⟩
  cases ss with
  | nil => exact k.bad
  | cons sl ss =>
    cases ss with
    | cons _ _ => exact k.bad
    | nil =>
      cases xs with
      | nil => cases hl
      | cons x xs =>
        cases xs with
        | cons _ _ => simp at hl
        | nil =>
          obtain ⟨H0, n, s0, t⟩ := id ok
          have hx : SlOk X.K B H0 H x sl := t (x, sl) (by simp)
          have t' : ∀ p ∈ ts, SlOk X.K B H0 H p.1 p.2 := fun p hp => t p (by simp [hp])
          have k : (minLD (dat sl)).go _ _ := k
          generalize ex : dat sl = dx at k
          cases dx with
          | list ds =>
            cases ds with
            | nil => exact k.bad
            | cons d ds =>
              have k : (if minOk (d :: ds) = true then Res.ok (PySem.W.minD d ds) else .bad).go _ _ := k
              split at k
              · rename_i hs
                obtain ⟨hp, hal, hdp⟩ := minOk_parts hs
                obtain ⟨a, us', ea, ha, la, da⟩ := hx.lst n.b ex
                subst ea
                rw [Vals.ref1 r]
                obtain ⟨its, rv, pl, _⟩ := I.list (SqL.of ha)
                obtain ⟨as, hr⟩ := Dp.readsAll I _ _ _ (DqAll.dp hp (da.mono n.b)) rv
                refine PySem.W.min_list_data (I.ok.hd hc) pl.isList (x := d) (xs := ds) (as := as) (by simpa using hr) hal (by omega) fun i v h' tk bs hi rd keep => ?_
                have hi' : its[i]? = some v := by simpa using hi
                obtain ⟨hlt, _⟩ := List.getElem?_eq_some_iff.mp hi'
                have hlu : i < us'.length := by rw [rv.length]; exact hlt
                obtain ⟨u2, hu2, ru⟩ := rv.get (List.getElem?_eq_getElem hlu)
                rw [hi'] at hu2
                cases hu2
                obtain ⟨d2, hd2, dq⟩ := da.getV (List.getElem?_eq_getElem hlu)
                have pd2 : d2.plain = true := plain_in hp (List.mem_of_getElem? hd2)
                obtain ⟨bs2, rd2⟩ := Dp.reads I d2 _ v (Dq.dp pd2 (dq.mono n.b)) ru
                have e2 : d2 = PySem.W.minD d ds := PySem.SeqAt.plain_unique d2 _ v bs2 bs pd2 (PyProof.Rows.Reads.keeps keep rd2) rd
                rw [e2] at dq
                exact ⟨_, H, I.kept keep, ru, k.ok _ _ (mk_val n s0 t' dq)⟩
              · exact k.bad
          | _ => exact k.bad
theorem dMinL {a : Expr} {p pos : Pos} {kk : Nat} (T : Blt X.mg) (hr : Room kk X.A) (hc : X.calm = true) (hg : Gl X "min") {f : Env → Res (List PyData)} (ha : PA X [a] (tAS X.K mg E f)) (he : starEach [a] X.env = (false, eval a X.env) :: starEach [] X.env := by rfl) (hpl : (backTo pos (starEach [] X.env)).any (·.1) = false := by rfl) :
    PE X (.Call (.Name "min" p) [a] [] pos) (tD X.K mg E (eCall (call1 minLD) f)) := d_callB (c_minL hc (ru hr)) hg T.min (by decide +kernel) ha (by decide) (by decide) he hpl
end

/-! ### enumerate(v) of a list or a tuple -/
section
open PySem.Spec PyProof.Rows
abbrev enumNew (it : Addr) : Obj := { cls := .type "enumerate", data := .fields #[.none, .bool false, .ref it, rawInt 0, .none, .none] }
set_option maxHeartbeats 1000000 in
theorem meets_enum1 {v : Value} {o : Obj} {H : Heap → Prop} (B : Begins v o H) :
    Meets (Builtin.«enumerate.__new__» ⟨[.type "enumerate", v], []⟩) (fun _ R s => H s.heap ∧ R (.ok (.ret (.ref (s.heap.push o).objs.size))) { s with heap := (s.heap.push o).push (enumNew s.heap.objs.size) }) :=
  .of_wp fun prog w A R s h => by
    obtain ⟨hp, g, d, tk, os⟩ := s
    obtain ⟨h1, h⟩ := h
    have hsub := sub_enumerate
    have q1 : ∀ {A' : Around} {E : Value → Shared → Prop} {Q : Value → Shared → Prop}, Q (.ref hp.objs.size) ⟨hp.push o, g, d, tk, os⟩ → wpAny (model prog w) A' (pyIter v) Q E ⟨hp, g, d, tk, os⟩ := fun q => B.iter prog w _ _ ⟨hp, g, d, tk, os⟩ _ h1 q
    wp_walk using q1
    refine wpAny_stack_any fun st => wpAny_pure ?_
    split
    · rename_i c _ _ _ _ _
      cases (c == Value.type "enumerate") <;> (wp_walk using q1; exact ⟨_, rfl, h⟩)
    · wp_walk using q1
      exact ⟨_, rfl, h⟩
theorem enum_of {prog : Program} {w : World} {A : Around} {E : Value → Shared → Prop} {s : Shared} {v : Value} {o : Obj} {H : Heap → Prop} {Q : Value → Shared → Prop} (B : Begins v o H) (h1 : H s.heap)
    (h : ∀ h', IsEnum h' (s.heap.objs.size + 1) s.heap.objs.size 0 .none → h'.get? s.heap.objs.size = some o → (∀ b o, s.heap.get? b = some o → h'.get? b = some o) → Q (.ref (s.heap.objs.size + 1)) { s with heap := h' }) :
    wpAny (model prog w) A (call (.type "enumerate") [v]) Q E s := by
  refine callType_new F.called_enumerate (by decide) (F.typeCall_enumerate_1 _) (F.newCall_enumerate_1 _) (fun obj => F.args_object_init_2 obj _) F.entry_enumerate_new (meets_enum1 B) ⟨h1, ?_⟩
  have hz : (s.heap.push o).objs.size = s.heap.objs.size + 1 := Heap.size_push ..
  show _ ∧ _
  rw [hz]
  have he : IsEnum ((s.heap.push o).push (enumNew s.heap.objs.size)) (s.heap.objs.size + 1) s.heap.objs.size 0 .none := by
    have q := Heap.get?_push_size (s.heap.push o) (o := enumNew s.heap.objs.size) rfl
    rw [hz] at q
    exact q
  exact ⟨⟨_, he, rfl⟩, h _ he (Heap.get?_push_of_some _ (Heap.get?_push_size _ B.free)) fun b o x => Heap.get?_push_of_some _ (Heap.get?_push_of_some _ x)⟩
theorem enumT_end {prog : Program} {w : World} {A : Around} {E : Value → Shared → Prop} {s : Shared} {e it t : Addr} {i : Nat} {its : Array Value} {old : Value} {Q : Option Value → Shared → Prop} (hand : A.handled = none) (he : IsEnum s.heap e it i old) (hit : s.heap.IsTupleIter it t i) (ht : s.heap.IsTuple t its) (none_ : its[i]? = none)
    (fin : ∀ h', Heap.ExtBut it s.heap h' → Q none { s with heap := h' }) : wpAny (model prog w) A (pyNext (.ref e)) Q E s := by
  have ty : s.TypeIs (.ref e) "enumerate" := ⟨_, he, rfl⟩
  unfold pyNext
  refine wpAny_bind (wpAny_attempt (wpAny_callSpecial?_slot (name := Str.ofString "__next__") ty F.slot_enumerate_next (wpAny_call_entry F.slot_enumerate_next ty F.entry_enumerate_next ?_ (F.args_enumerate_next_1 _))))
  show wpAny _ _ (field (.ref e) 2 >>= _) _ _ _
  refine wpAny_bind (wpAny_field he rfl (x := .ref it) rfl (wpAny_bind (wpAny_nextOf_tuple_end hand hit ht none_ fun h' x xb hx => ?_)))
  obtain ⟨o, ho, hc⟩ := hx
  exact wpAny_bind (wpAny_isInstance (T := "StopIteration") (b := true) ⟨o, ho, hc⟩ isSubtype_stop (wpAny_pure (fin _ xb)))
/-- the tuple at a, each item in a new pair -/
def ItE (K : PySem.W.Frag) (a : Addr) : It :=
  ⟨fun i H => ∃ (xs : List V) (x : V), SqT K H a xs ∧ xs[i]? = some x, fun i H v H' => ∃ T x, v = .ref T ∧ H T = none ∧ H' = upd H T (.tup [.int (i : Nat), x]) ∧ ∀ xs, SqT K H a xs → xs[i]? = some x, fun i H => ∃ xs : List V, SqT K H a xs ∧ xs.length ≤ i⟩
theorem turn_enumT {P : Program} {w : World} {K : PySem.W.Frag} {elts : List Expr} {kk : Nat} {tpos : Pos} (a e it : Addr) (nea : a ≠ it) (nee : e ≠ a) :
    Turn P w K (.Tuple elts kk tpos) (ItE K a) [e, it] e (fun i h => (∃ old, IsEnum h e it ((i : Nat) : Int) old) ∧ h.IsTupleIter it a i ∧ e ≠ it) where
  mem := by simp
  obj := fun i h st b hb => by
    obtain ⟨⟨old, he⟩, ⟨o, ho, hc, hd⟩, _⟩ := st
    rcases (show b = e ∨ b = it by simpa using hb) with z | z
    · rw [z]; exact ⟨_, he, fun v q => nomatch q⟩
    · rw [z]; exact ⟨o, ho, fun v q => by rw [hd] at q; cases q⟩
  keep := fun i h h' st k => let ⟨⟨old, he⟩, hi, hne⟩ := st; ⟨⟨old, k e (by simp) _ he⟩, hi.at fun o q => k it (by simp) o q, hne⟩
  item := by
    intro X hP hw hK hc i pins s σ H E I hf st hg
    subst hP hw hK
    obtain ⟨⟨old, he⟩, hit, hne⟩ := st
    obtain ⟨xs, x, hq, hx⟩ := hg
    obtain ⟨its, rv, p, hz⟩ := I.tuple hq
    obtain ⟨u, hu, ru⟩ := rv.get hx
    have hel : e < s.heap.objs.size := Heap.lt_size he
    have hil : it < s.heap.objs.size := by obtain ⟨_, q, _⟩ := hit; exact Heap.lt_size q
    have hlt : i < its.toArray.size := by
      have := (List.getElem?_eq_some_iff.mp hu).1
      simpa using this
    refine wpAny_pyNext_enum_itemD (Draws.tuple (A := X.A.in1) (I.ok.hd hc) it a nea its.toArray) he ⟨hit, p⟩ hlt hne (by simp [hne, nee]) fun x' h' tk hP ho hst hT hsz hk => ?_
    have hP2 : its[i]? = some x' := by simpa using hP
    have ex : u = x' := by rw [hu] at hP2; exact Option.some.inj hP2
    subst ex
    refine ⟨_, rfl, wpAny_letOwnedTupleGo_enum (s := { s with heap := h', toks := tk + 1 }) ho fun h'' he' sb => ?_⟩
    have hT2 : h''.get? s.heap.objs.size = some { cls := .type "tuple", data := .seq #[.int i tk, u] } := (sb.2 _ (Nat.ne_of_gt hel)).trans hT
    have new : ObjOk X.prog X.w (upd H s.heap.objs.size (.tup [.int (i : Nat), x])) h'' s.heap.objs.size (.tup [.int (i : Nat), x]) :=
      ⟨by show 2 ≤ sizeLine; decide, [.int i tk, u], .cons ⟨_, rfl⟩ (.cons ru .nil), ⟨_, hT2, rfl, _, rfl⟩⟩
    have I1 : Inv X pins σ (upd H s.heap.objs.size (.tup [.int (i : Nat), x])) { s with heap := h'', toks := tk + 1 } :=
      I.turnedNew (ch := [e, it]) (fun b ob hb q => (sb.2 b (fun z => hb (by simp [z]))).trans (hk b ob (fun z => hb (by simp [z])) (fun z => hb (by simp [z])) q)) hf (Nat.le_refl _) new
    refine ⟨.ref s.heap.objs.size, _, I1, rfl, ⟨_, x, rfl, I.hok.fresh (Nat.le_refl _), rfl, fun ys hy => by rw [I.tuple_inj hy hq]; exact hx⟩, ⟨⟨u, ?_⟩, hst.1.at fun o q => (sb.2 it (Ne.symm hne)).trans q, hne⟩, fun b hb => ?_⟩
    · have e1 : ((i + 1 : Nat) : Int) = (i : Int) + 1 := by omega
      rw [e1]; exact he'
    · have hb' : b < s.heap.objs.size := by
        rcases (show b = e ∨ b = it by simpa using hb) with z | z
        · rw [z]; exact hel
        · rw [z]; exact hil
      rw [upd_ne (Nat.ne_of_lt hb')]
      exact (hf b hb).1
  done := by
    intro X hP hw hK hc i pins s σ H E I hf st hg
    subst hP hw hK
    obtain ⟨⟨old, he⟩, hit, hne⟩ := st
    obtain ⟨xs, hq, hx⟩ := hg
    obtain ⟨its, rv, p, hz⟩ := I.tuple hq
    obtain ⟨f0, f1, f2, f3, f4, f5⟩ := hf it (by simp)
    have hl := rv.length
    exact enumT_end (I.ok.hd hc) he hit p (by simp; omega) fun h' eb => ⟨rfl, I.turned (t' := s.toks) (fun b o hb q => eb b o hb q) f0 f1 f3 f4 f5⟩
  self := fun A i s Q E st h => let ⟨⟨_, he⟩, _⟩ := st; wpAny_pyIter_enum he h
end
/-- items with their places -/
def enumD : List PyData → Res (List PyData)
  | [.list xs] => .ok ((List.range xs.length).zipWith (fun (i : Nat) d => pr2 (.int (i : Int)) d) xs)
  | [.tuple xs] => .ok ((List.range xs.length).zipWith (fun (i : Nat) d => pr2 (.int (i : Int)) d) xs)
  | _ => .bad
def iEnumD (f : Env → Res (List PyData)) : Env → Res (List PyData) := fun ρ => (f ρ).bind enumD
theorem enum_at {xs : List PyData} {i : Nat} {d : PyData} (h : ((List.range xs.length).zipWith (fun (i : Nat) d => pr2 (.int (i : Int)) d) xs)[i]? = some d) : ∃ x, xs[i]? = some x ∧ d = pr2 (.int (i : Int)) x := by
  rw [List.getElem?_zipWith] at h
  cases q : xs[i]? with
  | none => rw [q] at h; cases q2 : (List.range xs.length)[i]? <;> rw [q2] at h <;> cases h
  | some x =>
    have hi : i < xs.length := (List.getElem?_eq_some_iff.mp q).1
    rw [q, List.getElem?_range hi] at h
    exact ⟨x, rfl, (Option.some.inj h).symm⟩
theorem enum_len (xs : List PyData) : ((List.range xs.length).zipWith (fun (i : Nat) d => pr2 (.int (i : Int)) d) xs).length = xs.length := by
  rw [List.length_zipWith, List.length_range, Nat.min_self]
section
variable {X : Cx} {K : PySem.W.Frag} {mg : Str → Option Value} {E : XK} {pos : Pos}
theorem iter_enumL {B0 B : Hp} {a : Addr} {s : Sl} {xs : List PyData} (e1 : dat s = .list xs) (hl : xs.length ≤ sizeLine) : Iter K B0 B [(.ref a, s)] (Ite K a) ((List.range xs.length).zipWith (fun (i : Nat) d => pr2 (.int (i : Int)) d) xs) where
  go := fun i d ρ ts σ H hi ok => by
    obtain ⟨H0, n, sl, t⟩ := id ok
    obtain ⟨_, us, eb, hb, lb, db⟩ := (show SlOk K B H0 H (.ref a) s from t (.ref a, s) (by simp)).lst n.b e1
    cases eb
    obtain ⟨dx, h1, rfl⟩ := enum_at hi
    obtain ⟨v, hv, dv⟩ := db.get h1
    refine ⟨⟨us, v, SqL.of hb, hv⟩, fun x H' ⟨T, x', ex, hT, eH, q1⟩ => ?_⟩
    subst ex eH
    have q1 := q1 us (SqL.of hb)
    rw [hv] at q1
    cases q1
    exact mk_pair n sl t (.int _) dv hT
  stop := fun i ρ ts σ H hi ok => by
    obtain ⟨H0, n, sl, t⟩ := id ok
    obtain ⟨_, us, eb, hb, lb, db⟩ := (show SlOk K B H0 H (.ref a) s from t (.ref a, s) (by simp)).lst n.b e1
    cases eb
    rw [enum_len] at hi
    exact ⟨us, SqL.of hb, by rw [db.length]; exact hi⟩
  len := by rw [enum_len]; exact hl
theorem iter_enumT {B0 B : Hp} {a : Addr} {s : Sl} {xs : List PyData} (e1 : dat s = .tuple xs) (hl : xs.length ≤ sizeLine) : Iter K B0 B [(.ref a, s)] (ItE K a) ((List.range xs.length).zipWith (fun (i : Nat) d => pr2 (.int (i : Int)) d) xs) where
  go := fun i d ρ ts σ H hi ok => by
    obtain ⟨H0, n, sl, t⟩ := id ok
    obtain ⟨_, us, eb, hb, lb, db⟩ := (show SlOk K B H0 H (.ref a) s from t (.ref a, s) (by simp)).tup n.b e1
    cases eb
    obtain ⟨dx, h1, rfl⟩ := enum_at hi
    obtain ⟨v, hv, dv⟩ := db.get h1
    refine ⟨⟨us, v, hb.sq, hv⟩, fun x H' ⟨T, x', ex, hT, eH, q1⟩ => ?_⟩
    subst ex eH
    have q1 := q1 us (hb.sq)
    rw [hv] at q1
    cases q1
    exact mk_pair n sl t (.int _) dv hT
  stop := fun i ρ ts σ H hi ok => by
    obtain ⟨H0, n, sl, t⟩ := id ok
    obtain ⟨_, us, eb, hb, lb, db⟩ := (show SlOk K B H0 H (.ref a) s from t (.ref a, s) (by simp)).tup n.b e1
    cases eb
    rw [enum_len] at hi
    exact ⟨us, hb.sq, by rw [db.length]; exact hi⟩
  len := by rw [enum_len]; exact hl
/-- what the walker of enumerate(e) asks -/
def iEnumA (K : PySem.W.Frag) (ta : TA) : TI := fun σ H R => ta σ H fun vs H1 => ∃ a xs, vs = [.ref a] ∧ ((SqL K H1 a xs ∧ R (Ite K a) H1) ∨ (SqT K H1 a xs ∧ R (ItE K a) H1))
theorem pi_enumA {e : Expr} {ta : TA} {p pos tpos : Pos} {elts : List Expr} {kk : Nat} (hg : Gl X "enumerate") (hm : X.mg "enumerate" = none) (ha : PA X [e] ta) (hs : starEach [e] X.env = [(false, eval e X.env)] := by rfl) :
    PI X (.Tuple elts kk tpos) (.Call (.Name "enumerate" p) [e] [] pos) (iEnumA X.K ta) := by
  refine ⟨fun pins s σ H R I h => PyProof.Rows.Call_ (ld_blt I hg hm PyProof.Rows.boot_enumerate (PyProof.Rows.callWith_type1 (thn (ha.run pos pins s σ H _ I h) fun us s1 ⟨vs, H1, I1, r1, q1⟩ => ?_) hs rfl))⟩
  obtain ⟨a, xs, ex, q1⟩ := q1
  subst ex
  cases r1 with
  | cons r rr =>
    cases rr
    cases r
    rcases q1 with ⟨hq, q⟩ | ⟨hq, q⟩
    · obtain ⟨its, rv, p', hz⟩ := I1.list hq
      refine PySem.call_enumerate_list p'.isList fun h' he hit hsz hk => PySem.wpAny_pyIter_enum he ?_
      have I2 : Inv X pins σ H1 { s1 with heap := h' } := I1.kept (t' := s1.toks) hk
      refine ⟨s1.heap.objs.size + 1, [s1.heap.objs.size + 1, s1.heap.objs.size], _, _, H1, rfl, I2, turn_enum a (s1.heap.objs.size + 1) s1.heap.objs.size, ⟨⟨.none, he⟩, hit, Nat.succ_ne_self _⟩, fun b hb => ?_, q⟩
      have hle : s1.heap.objs.size ≤ b := by
        rcases (show b = s1.heap.objs.size + 1 ∨ b = s1.heap.objs.size by simpa using hb) with z | z
        · rw [z]; exact Nat.le_add_right _ _
        · rw [z]; exact Nat.le_refl _
      exact I1.fpOk hle (I1.hok.fresh hle)
    · obtain ⟨its, rv, p', hz⟩ := I1.tuple hq
      have hal : a < s1.heap.objs.size := by obtain ⟨o, ho, _⟩ := p'; exact Heap.lt_size ho
      refine enum_of (PySem.begins_tuple a its.toArray) p' fun h' he hit hk => PySem.wpAny_pyIter_enum he ?_
      have I2 : Inv X pins σ H1 { s1 with heap := h' } := I1.kept (t' := s1.toks) hk
      refine ⟨s1.heap.objs.size + 1, [s1.heap.objs.size + 1, s1.heap.objs.size], _, _, H1, rfl, I2, turn_enumT a (s1.heap.objs.size + 1) s1.heap.objs.size (Nat.ne_of_lt hal) (Nat.ne_of_gt (Nat.lt_succ_of_lt hal)), ⟨⟨.none, he⟩, ⟨_, hit, rfl, rfl⟩, Nat.succ_ne_self _⟩, fun b hb => ?_, q⟩
      have hle : s1.heap.objs.size ≤ b := by
        rcases (show b = s1.heap.objs.size + 1 ∨ b = s1.heap.objs.size by simpa using hb) with z | z
        · rw [z]; exact Nat.le_add_right _ _
        · rw [z]; exact Nat.le_refl _
      exact I1.fpOk hle (I1.hok.fresh hle)
theorem i_enum {a : Expr} {f : Env → Res (List PyData)} {p tpos : Pos} {elts : List Expr} {kk : Nat} {b : Bool} (hg : Gl X "enumerate") (hm : X.mg "enumerate" = none) (ha : PA X [a] (tA X.K mg E f)) (hs : starEach [a] X.env = [(false, eval a X.env)] := by rfl) :
    PI X (.Tuple elts kk tpos) (.Call (.Name "enumerate" p) [a] [] pos) (tI X.K mg E b (iEnumD f)) :=
  pi_weak (pi_enumA hg hm ha hs) fun σ H R ⟨B0, B, ρ, ts, ok, q⟩ => ⟨B0, B, ρ, ts, ok, q.go_bind.go_mono fun ds k vs H' hl ok' => by
    have av : ∀ (a : Addr) (d : PyData), b = true → AllVal [((V.ref a : V), Sl.val d)] := fun a d _ p hp => by
      rw [List.mem_singleton.mp hp]
      exact ⟨d, rfl⟩
    unfold enumD at k
    split at k
    · rename_i xs
      cases vs with
      | nil => cases hl
      | cons v vs =>
        cases vs with
        | cons _ _ => simp at hl
        | nil =>
          obtain ⟨H0, n, sl, t⟩ := id ok'
          obtain ⟨a, us, ea, ha, la, da⟩ := (show SlOk X.K B H0 H' v (.val (.list xs)) from t (v, .val (.list xs)) (by simp)).lst n.b rfl
          subst ea
          exact ⟨a, us, rfl, .inl ⟨SqL.of ha, k.ok _ H' _ ok' (av a _) (fun _ _ => iter_enumL rfl (by rw [← da.length]; exact la))⟩⟩
    · rename_i xs
      cases vs with
      | nil => cases hl
      | cons v vs =>
        cases vs with
        | cons _ _ => simp at hl
        | nil =>
          obtain ⟨H0, n, sl, t⟩ := id ok'
          obtain ⟨a, us, ea, ha, la, da⟩ := (show SlOk X.K B H0 H' v (.val (.tuple xs)) from t (v, .val (.tuple xs)) (by simp)).tup n.b rfl
          subst ea
          exact ⟨a, us, rfl, .inr ⟨ha.sq, k.ok _ H' _ ok' (av a _) (fun _ _ => iter_enumT rfl (by rw [← da.length]; exact la))⟩⟩
    · exact k.bad⟩
end
end DL

namespace DL
open PySem L2

/-! ### a new list of one's own, written out -/
def eLO (f : Env → Res (List PyData)) : Env → Res (List PyData) := fun ρ => (f ρ).bind fun ds => (szOk ds.length).bind fun _ => .ok ds
section
variable {X : Cx} {K : PySem.W.Frag} {mg : Str → Option Value} {E : XK} {pos : Pos}
theorem f_lst {es : List Expr} {f : Env → Res (List PyData)} (h : PA X es (tA K mg E f)) : PE X (.List es pos) (tF K mg E (eLO f)) :=
  pe_weak (pe_lst h) fun σ H Q ⟨B0, B, ρ, ts, ok, q⟩ => ⟨B0, B, ρ, ts, ok, q.go_bind.go_mono fun ds k vs H1 hl ok1 => by
    obtain ⟨hz, k⟩ := szOk_go k.go_bind
    refine ⟨by rw [hl]; exact hz, fun p hp => ?_⟩
    obtain ⟨h1, h2⟩ := ok1.newOwn (vs := vs) (ds := ds) (fun H0 n s t => vals_all (B := B) (H := H1) hl fun q hq => t q (List.mem_append_left _ hq)) (by rw [hl]; exact hz) hp
    refine k.ok p _ (h1.sub fun q hq => ?_) ⟨h2.1, fun q hq => h2.2 q (List.mem_append_right _ hq)⟩
    rcases List.mem_cons.mp hq with z | z
    · rw [z]; exact List.mem_cons_self
    · exact List.mem_cons_of_mem _ (List.mem_append_right _ z)⟩
end

/-! ### a def that writes a list of its caller's: its statements keep where the list lies -/
inductive RJ where
  | nx (ρ : Env)
  | rn (ρ : Env)
  | bad
def RJ.go (J : St → Prop) (K : PySem.W.Frag) (B0 B : Hp) (ts : List (V × Sl)) (D : Ends) : RJ → Prop
  | .nx ρ => ∀ σ H, SOk K B0 B ρ ts σ H → J σ → D.nx σ H
  | .rn ρ => ∀ σ H, SOk K B0 B ρ ts σ H → J σ → D.rt .non H
  | .bad => False
def tJ (J : St → Prop) (K : PySem.W.Frag) (S : Env → RJ) : TS := fun D σ H => ∃ B0 B ρ ts, SOk K B0 B ρ ts σ H ∧ AllVal ts ∧ J σ ∧ (S ρ).go J K B0 B ts D
def ofJ {α : Type} (r : Res α) (k : α → RJ) : RJ := match r with
  | .ok a => k a
  | _ => .bad
theorem ofJ_go {α : Type} {J : St → Prop} {K : PySem.W.Frag} {B0 B : Hp} {ts : List (V × Sl)} {D : Ends} {r : Res α} {k : α → RJ} {R : Str → Prop} (h : (ofJ r k).go J K B0 B ts D) : r.go (fun a => (k a).go J K B0 B ts D) R := by
  cases r with
  | ok a => exact ⟨h⟩
  | err x => exact False.elim h
  | bad => exact ⟨h⟩
def jNil : Env → RJ := fun ρ => .nx ρ
def jSeq (S T : Env → RJ) : Env → RJ := fun ρ => match S ρ with
  | .nx ρ' => T ρ'
  | .rn ρ' => .rn ρ'
  | .bad => .bad
def jIf (c : Env → Res Bool) (S T : Env → RJ) : Env → RJ := fun ρ => ofJ (c ρ) fun b => if b = true then S ρ else T ρ
def jRet : Env → RJ := fun ρ => .rn ρ
def jAsg (g : PyData → Env → Option Env) (f : Env → Res PyData) : Env → RJ := fun ρ => ofJ (f ρ) fun d => match g d ρ with
  | some ρ' => .nx ρ'
  | none => .bad
/-- xs[0] = e, the list xs of one item -/
def jPut (i : Nat) (f : Env → Res PyData) : Env → RJ := fun ρ => match ρ[i]? with
  | some (.own [_]) => ofJ (f ρ) fun d => .nx (ρ.set i (.own [d]))
  | _ => .bad
def jLoop (g : PyData → Env → Option Env) (S : Env → RJ) : List PyData → Env → RJ
  | [], ρ => .nx ρ
  | d :: ds, ρ => match g d ρ with
    | none => .bad
    | some ρ1 => match S ρ1 with
      | .nx ρ' => jLoop g S ds ρ'
      | .rn ρ' => .rn ρ'
      | .bad => .bad
def jFor (it : Env → Res (List PyData)) (g : PyData → Env → Option Env) (S : Env → RJ) : Env → RJ := fun ρ => ofJ (it ρ) fun ds => jLoop g S ds ρ
section
variable {X : Cx} {K : PySem.W.Frag} {mg : Str → Option Value} {E : XK} {pos : Pos} {J : St → Prop}
theorem j_nil : PSs X [] (tJ J K jNil) := pss_weak pss_nil fun D σ H ⟨B0, B, ρ, ts, ok, _, j, q⟩ => q σ H ok j
theorem j_one {st : Stmt} {S : Env → RJ} (h : PS X st (tJ J K S)) : PSs X [st] (tJ J K S) := pss_one h
theorem j_cons {st : Stmt} {rest : List Stmt} {S T : Env → RJ} (h1 : PS X st (tJ J K S)) (h2 : PSs X rest (tJ J K T)) : PSs X (st :: rest) (tJ J K (jSeq S T)) :=
  pss_weak (pss_cons h1 h2) fun D σ H ⟨B0, B, ρ, ts, ok, av, j, q⟩ => ⟨B0, B, ρ, ts, ok, av, j, by
    unfold jSeq at q
    cases h : S ρ with
    | nx ρ' => rw [h] at q; exact fun σ' H' ok' j' => ⟨B0, B, ρ', ts, ok', av, j', q⟩
    | rn ρ' => rw [h] at q; exact q
    | bad => rw [h] at q; exact q⟩
theorem j_if {c : Expr} {a b : List Stmt} {tc : Env → Res Bool} {S T : Env → RJ} (hc : PT X c (tT K mg E tc)) (ha : PSs X a (tJ J K S)) (hb : PSs X b (tJ J K T)) : PS X (.If c a b pos) (tJ J K (jIf tc S T)) :=
  ps_weak (ps_if hc ha hb) fun D σ H ⟨B0, B, ρ, ts, ok, av, j, q⟩ => ⟨B0, B, ρ, ts, ok, (ofJ_go q).go_mono fun b k H' ok' => by
    cases b with
    | true =>
      show tJ J K S D σ H'
      exact ⟨B0, B, ρ, ts, ok', av, j, k⟩
    | false =>
      show tJ J K T D σ H'
      exact ⟨B0, B, ρ, ts, ok', av, j, k⟩⟩
theorem j_ret : PS X (.Return none pos) (tJ J K jRet) := ps_weak ps_retN fun D σ H ⟨B0, B, ρ, ts, ok, av, j, q⟩ => q σ H ok j
/-- targets that keep J -/
def tGJ (J : St → Prop) (K : PySem.W.Frag) (g : PyData → Env → Option Env) : TG := fun v σ H Q => J σ ∧ ∃ B0 B ρ ts d ρ', SOk K B0 B ρ ((v, .val d) :: ts) σ H ∧ g d ρ = some ρ' ∧ ∀ σ', SOk K B0 B ρ' ts σ' H → J σ' → Q σ' H
theorem gj_name {i : Nat} {x : Str} {p : Pos} (hJ : ∀ σ v, J σ → J (σ.set i v)) (h : PG X (.Name x p) (gName i)) : PG X (.Name x p) (tGJ J K (gN i)) :=
  pg_weak h fun v σ H Q ⟨j, B0, B, ρ, ts, d, ρ', ok, e, q⟩ => by
    cases e
    exact q _ (ok.set i) (hJ σ _ j)
theorem gj_pair {i k : Nat} {x y : Str} {p1 p2 : Pos} {kk : Nat} (hi : ∀ σ v, J σ → J (σ.set i v)) (hk : ∀ σ v, J σ → J (σ.set k v)) (hc : X.calm = true) (h1 : PG X (.Name x p1) (gName i)) (h2 : PG X (.Name y p2) (gName k)) : PG X (.Tuple [.Name x p1, .Name y p2] kk pos) (tGJ J X.K (gN2 i k)) :=
  pg_weak (pg_tup (n := 2) hc (pgs_cons h1 (pgs_cons h2 pgs_nil))) fun v σ H Q ⟨j, B0, B, ρ, ts, d, ρ', ok, e, q⟩ => by
    obtain ⟨⟨dx, dy⟩, e1, e2⟩ := gN2_of e
    subst e2
    obtain ⟨H0, n, s, t⟩ := id ok
    obtain ⟨a, vx, vy, ev, sq, r1, r2⟩ := two_at (show Dq X.K H0 v d from t (v, .val d) (by simp)) e1
    refine ⟨a, [vx, vy], ev, sq H n.b, rfl, vx, [vy], rfl, vy, [], rfl, rfl, q _ ?_ (hk _ _ (hi _ _ j))⟩
    have t' : ∀ p ∈ ts, SlOk X.K B H0 H p.1 p.2 := fun p hp => t p (List.mem_cons_of_mem _ hp)
    have o1 : SOk X.K B0 B ρ ((vx, .val dx) :: (vy, .val dy) :: ts) σ H := ⟨H0, n, s, fun p hp => by
      rcases List.mem_cons.mp hp with z | z
      · subst z; exact r1
      · rcases List.mem_cons.mp z with z | z
        · subst z; exact r2
        · exact t' p z⟩
    exact (o1.set i).set k
theorem j_asg {tg e : Expr} {f : Env → Res PyData} {g : PyData → Env → Option Env} (he : PE X e (tD K mg E f)) (hg : PG X tg (tGJ J K g)) (hs : swapsWithSole [tg] e pos.line X.env = pure false := by rfl) (hw : swappedStores [tg] e X.env = pure none := by rfl)
    (h1 : (assignEach [tg] X.env).map (·.2) = [assign tg X.env] := by rfl) : PS X (.Assign [tg] e pos) (tJ J K (jAsg g f)) :=
  ps_weak (ps_asg he hg hs hw h1) fun D σ H ⟨B0, B, ρ, ts, ok, av, j, q⟩ => ⟨B0, B, ρ, ts, ok, (ofJ_go q).go_mono fun d k v H' ok' => by
    cases h : g d ρ with
    | none =>
      rw [h] at k
      exact False.elim k
    | some ρ' =>
      rw [h] at k
      exact ⟨j, B0, B, ρ, ts, d, ρ', ok', h, fun σ' ok2 j2 => k σ' H' ok2 j2⟩⟩
theorem j_for {tg iter : Expr} {body : List Stmt} {it : Env → Res (List PyData)} {g : PyData → Env → Option Env} {S : Env → RJ} (hp : PassesOwn (model X.prog X.w) X.A X.env X.xe) (hc : X.calm = true) (hi : PI X tg iter (tI K mg E true it)) (hg : PG X tg (tGJ J K g)) (hb : PSs X body (tJ J K S))
    (hs : ∀ x, foldedSetIterable iter X.env x = pure x := by intro _; rfl) : PS X (.For tg iter body [] pos) (tJ J K (jFor it g S)) :=
  ps_weak (ps_for hp hc hi hg hb hs) fun D σ H ⟨B0, B, ρ, ts, ok, av, j, q⟩ => ⟨B0, B, ρ, ts, ok, (ofJ_go q).go_mono fun ds k It' H1 tm ok1 avt itg => by
    have it := itg B0 B
    refine ⟨fun i m σ H => ∃ ρ', m = ds.length - i ∧ i ≤ ds.length ∧ SOk K B0 B ρ' (tm ++ ts) σ H ∧ J σ ∧ (jLoop g S (ds.drop i) ρ').go J K B0 B ts D, ⟨ds.length, ρ, by simp, Nat.zero_le _, ok1, j, by rw [List.drop_zero]; exact k⟩, ?_⟩
    rintro i m σ H ⟨ρ', rfl, hi, ok2, j2, k2⟩
    by_cases hlt : i < ds.length
    · have e : ds.drop i = ds[i] :: ds.drop (i + 1) := List.drop_eq_getElem_cons hlt
      obtain ⟨g1, g2⟩ := it.go i ds[i] ρ' ts σ H (by simp [hlt]) ok2
      refine .inr ⟨g1, fun σ' H' => ∃ ρ'', SOk K B0 B ρ'' (tm ++ ts) σ' H' ∧ J σ' ∧ (jLoop g S (ds.drop (i + 1)) ρ'').go J K B0 B ts D, fun σ' H' ⟨ρ'', o, j3, kk⟩ => ⟨ds.length - (i + 1), by omega, ρ'', rfl, hlt, o, j3, kk⟩, fun x H' y => ?_⟩
      have ok3 := g2 x H' y
      rw [e] at k2
      unfold jLoop at k2
      cases hgd : g ds[i] ρ' with
      | none => rw [hgd] at k2; exact False.elim k2
      | some ρ1 =>
        rw [hgd] at k2
        refine ⟨j2, B0, B, ρ', tm ++ ts, ds[i], ρ1, ok3, hgd, fun σ2 ok4 j4 => ?_⟩
        refine ⟨B0, B, ρ1, tm ++ ts, ok4, fun p hp => ?_, j4, ?_⟩
        · rcases List.mem_append.mp hp with z | z
          · exact avt rfl p z
          · exact av p z
        · have sub : ∀ {ρ2 : Env} {σ2 : St} {H2 : Hp}, SOk K B0 B ρ2 (tm ++ ts) σ2 H2 → SOk K B0 B ρ2 ts σ2 H2 := fun o => o.sub fun p hp => List.mem_append_right _ hp
          cases hS : S ρ1 with
          | nx ρ2 => simp only [hS] at k2; exact fun σ3 H3 o j5 => ⟨ρ2, o, j5, k2⟩
          | rn ρ2 => simp only [hS] at k2; exact fun σ3 H3 o j5 => k2 σ3 H3 (sub o) j5
          | bad => simp only [hS] at k2; exact False.elim k2
    · have e : i = ds.length := by omega
      subst e
      rw [List.drop_length] at k2
      exact .inl ⟨it.stop _ ρ' ts σ H (Nat.le_refl _) ok2, k2 σ H (ok2.sub fun p hp => List.mem_append_right _ hp) j2⟩⟩
theorem j_put {i : Nat} {x : Str} {e : Expr} {f : Env → Res PyData} {p tp : Pos} {j0 : Nat} {cp : Pos} (hN : X.N[i]? = some x) (hv : Vis X.env.scope x) (he : PE X e (tD X.K mg E f)) (hd : (x == ("__debug__" : Str)) = false := by decide) (hcd : (x == ("__classdict__" : Str)) = false := by decide)
    (hs : swapsWithSole [.Subscript (.Name x p) (.Constant (.int 0) j0 cp) tp] e pos.line X.env = pure false := by rfl) (hw : swappedStores [.Subscript (.Name x p) (.Constant (.int 0) j0 cp) tp] e X.env = pure none := by rfl)
    (h1 : (assignEach [.Subscript (.Name x p) (.Constant (.int 0) j0 cp) tp] X.env).map (·.2) = [assign (.Subscript (.Name x p) (.Constant (.int 0) j0 cp) tp) X.env] := by rfl)
    (ha : ∀ v, assign (.Subscript (.Name x p) (.Constant (.int 0) j0 cp) tp) X.env v = (do
      let ov ← holding [v] (eval (.Name x p) X.env)
      let iv ← holding [v, ov] (eval (.Constant (.int 0) j0 cp) X.env)
      standAt tp
      holding [v, ov, iv] (setItem ov iv v)
      release [v, ov, iv] []) := by intro _; rfl) :
    PS X (.Assign [.Subscript (.Name x p) (.Constant (.int 0) j0 cp) tp] e pos) (tJ J X.K (jPut i f)) :=
  ps_weak (ps_asg he (pg_sub (pe_var hN hv hd hcd) pe_int set_list ha) hs hw h1) fun D σ H ⟨B0, B, ρ, ts, ok, av, j, q⟩ => by
    unfold jPut at q
    split at q
    · rename_i d0 hρ
      refine ⟨B0, B, ρ, ts, ok, (ofJ_go q).go_mono fun d k v H' ok' => ?_⟩
      obtain ⟨a, ha, key⟩ := own_at ok' hρ
      obtain ⟨xs, hp, hl, hlen, all⟩ := key _ H' ok'
      have hlen : xs.length = 1 := hlen
      have av2 : AllVal ((v, Sl.val d) :: ts) := fun p hp => by
        rcases List.mem_cons.mp hp with z | z
        · subst z; exact ⟨d, rfl⟩
        · exact av p z
      match xs, hlen, hp with
      | [x0], _, hp =>
        refine ⟨.ref a, ha, a, [x0], 0, 0, rfl, rfl, hp, rfl, ?_⟩
        refine k σ _ ?_ j
        exact (ok'.write av2 hρ ha (es := [d]) (ys := [v]) (fun H0 n s t => .cons (t (v, .val d) (by simp)) .nil) (by show 1 ≤ sizeLine; decide)).drop
    · exact False.elim q
end

/-! ### the contract of such a def: its last argument is the list -/
def Less (H B : Hp) (a : Addr) : Prop := B a = none ∧ ∀ b, b ≠ a → B b = H b
def spO (K : PySem.W.Frag) (F : List PyData → List PyData → Res (List PyData)) : Sp := fun vs H Q _ => ∃ B0 B ws ds a xs es, vs = ws ++ [.ref a] ∧ Less H B a ∧ Ex B0 B ∧ DqAll K B0 ws ds ∧ H a = some (.lst xs) ∧ xs.length ≤ sizeLine ∧ DqAll K B0 xs es ∧
  (F ds es).go (fun es' => ∀ B0' H' xs', Nw B0 B B0' H' → B0' a = none → H' a = some (.lst xs') → xs'.length ≤ sizeLine → DqAll K B0' xs' es' → Q .non H') (fun _ => False)
def outJ (i : Nat) : RJ → Res (List PyData)
  | .nx ρ => (match ρ[i]? with
    | some (.own es) => .ok es
    | _ => .bad)
  | .rn ρ => (match ρ[i]? with
    | some (.own es) => .ok es
    | _ => .bad)
  | .bad => .bad
/-- n frozen arguments, then the list, m slots -/
def runJ (n m : Nat) (S : Env → RJ) (ds es : List PyData) : Res (List PyData) := if ds.length = n then outJ n (S (ds.map Sl.val ++ (Sl.own es :: List.replicate (m - (n + 1)) Sl.no))) else .bad
theorem runJ_len {n m : Nat} {S : Env → RJ} {ds es : List PyData} {P : List PyData → Prop} {R : Str → Prop} (h : (runJ n m S ds es).go P R) : ds.length = n := by
  unfold runJ at h
  split at h
  · rename_i q; exact q
  · exact h.bad
theorem startO {K : PySem.W.Frag} {B0 B H : Hp} {ws : List V} {ds es : List PyData} {a : Addr} {xs : List V} {N : List Str} (hN : ds.length + 1 ≤ N.length) (l : Less H B a) (e : Ex B0 B) (h : DqAll K B0 ws ds) (ha : H a = some (.lst xs)) (hz : xs.length ≤ sizeLine) (hx : DqAll K B0 xs es) :
    SOk K B0 B (ds.map Sl.val ++ (Sl.own es :: List.replicate (N.length - (ds.length + 1)) Sl.no)) [] (start N (ws ++ [.ref a])) H := by
  have hl := h.length
  have b0a : B0 a = none := e.none l.1
  have exB : Ex B H := fun b o q => by
    by_cases z : b = a
    · subst z; rw [l.1] at q; cases q
    · rw [← l.2 b z]; exact q
  have gets : ∀ (i : Nat) (s : Sl), (ds.map Sl.val ++ (Sl.own es :: List.replicate (N.length - (ds.length + 1)) Sl.no))[i]? = some s → s ≠ .no → (i < ds.length ∧ ∃ d, ds[i]? = some d ∧ s = .val d) ∨ (i = ds.length ∧ s = .own es) := fun i s e1 ne => by
    by_cases hi : i < ds.length
    · rw [List.getElem?_append_left (by rw [List.length_map]; exact hi), List.getElem?_map] at e1
      cases q : ds[i]? with
      | none => rw [q] at e1; cases e1
      | some d => rw [q] at e1; cases e1; exact .inl ⟨hi, d, rfl, rfl⟩
    · rw [List.getElem?_append_right (by rw [List.length_map]; omega), List.length_map] at e1
      cases hk : i - ds.length with
      | zero => rw [hk] at e1; cases e1; exact .inr ⟨by omega, rfl⟩
      | succ k =>
        rw [hk, List.getElem?_cons_succ, List.getElem?_replicate] at e1
        split at e1
        · cases e1; exact absurd rfl ne
        · cases e1
  refine ⟨B0, ⟨Ex.refl _, e.trans exB, exB, fun _ _ q => .inl q⟩, ⟨?_, fun i s e1 ne => ?_, fun i j as bs c hij ei ej => ?_⟩, fun p hp => nomatch hp⟩
  · unfold L2.start
    simp only [List.length_append, List.length_map, List.length_cons, List.length_nil, List.length_replicate]
    omega
  · rcases gets i s e1 ne with ⟨hi, d, q, rfl⟩ | ⟨hi, rfl⟩
    · obtain ⟨v, hv, dv⟩ := h.get q
      refine ⟨v, ?_, dv⟩
      unfold L2.start
      rw [List.getElem?_append_left (by rw [List.length_map, List.length_append]; omega), List.getElem?_map, List.getElem?_append_left (by rw [hl]; exact hi), hv]
      rfl
    · refine ⟨.ref a, ?_, a, xs, rfl, l.1, b0a, ha, hz, hx⟩
      unfold L2.start
      rw [List.getElem?_append_left (by rw [List.length_map, List.length_append, List.length_singleton]; omega), List.getElem?_map, List.getElem?_append_right (by omega), hi, hl, Nat.sub_self]
      rfl
  · rcases gets i _ ei (by simp) with ⟨_, d, _, q⟩ | ⟨hi, _⟩
    · cases q
    · rcases gets j _ ej (by simp) with ⟨_, d, _, q⟩ | ⟨hj, _⟩
      · cases q
      · omega
theorem defO_ok {P : Program} {w : World} {K : PySem.W.Frag} {mg : Str → Option Value} {base : Heap} {x qual : Str} {st : Stmt} {f : Addr} {fd : FuncData} {N ps : List Str} {k n : Nat} {S : Env → RJ} (F : Fun K x qual st f fd) (sc : FnScope N ps (defScope st)) (hn : ps.length = n + 1) (hN : n + 1 ≤ N.length)
    (hbody : ∀ (a : Addr) (cdv : Value) (A : Around) (outer : List PySem.Env) (s : Shared) (H : Hp) (E : XK), Room k (A.deeper (PyProof.Rows.envOfC qual (defScope st) s.heap.objs.size f cdv)) → PSs (cxOf (L2.CX P w) P w K mg base N qual (defScope st) f cdv A outer s H E) (defBody st) (tJ (fun σ => σ[n]? = some (some (.ref a))) K S)) :
    FnOk P w K mg base (L2.CX P w) (k + 1) f fd ps (spO K (runJ n N.length S)) :=
  F.okX sc (fun vs H Q E ⟨B0, B, ws, ds, a, xs, es, e, _, _, hd, _, _, _, kk⟩ => by
    rw [e, List.length_append, List.length_singleton, hd.length, runJ_len kk, hn]) fun cdv A outer s H vs Q E hr ⟨B0, B, ws, ds, a, xs, es, e, l, ex, hd, ha, hz, hx, kk⟩ => by
    have hl := runJ_len kk
    subst e
    refine ⟨_, hbody a cdv A outer s H E hr, B0, B, _, [], startO (N := N) (by omega) l ex hd ha hz hx, (fun p hp => nomatch hp), ?_, ?_⟩
    · show (L2.start N (ws ++ [.ref a]))[n]? = some (some (.ref a))
      unfold L2.start
      have hw := hd.length
      rw [List.getElem?_append_left (by rw [List.length_map, List.length_append, List.length_singleton]; omega), List.getElem?_map, List.getElem?_append_right (by omega), hw, hl, Nat.sub_self]
      rfl
    · unfold runJ at kk
      rw [if_pos hl] at kk
      rw [hl]
      have fin : ∀ (ρ : Env), (match ρ[n]? with
          | some (.own es) => Res.ok es
          | _ => .bad).go (fun es' => ∀ (B0' H' : Hp) (xs' : List V), Nw B0 B B0' H' → B0' a = none → H' a = some (HO.lst xs') → xs'.length ≤ sizeLine → DqAll K B0' xs' es' → Q .non H') (fun _ => False) → ∀ σ H', SOk K B0 B ρ [] σ H' → σ[n]? = some (some (.ref a)) → Q .non H' := fun ρ g σ H' ok j => by
        cases hq : ρ[n]? with
        | none => rw [hq] at g; exact g.bad
        | some sl =>
          rw [hq] at g
          cases sl with
          | no => exact g.bad
          | val d => exact g.bad
          | own es' =>
            obtain ⟨H0, nw, s', t⟩ := ok
            obtain ⟨v, e1, b, xs', e2, hB, h0, hp, hl', hdd⟩ := s'.at_ n _ hq (by simp)
            rw [j] at e1
            have e3 : V.ref a = v := Option.some.inj (Option.some.inj e1)
            rw [← e3] at e2
            cases e2
            exact g.ok H0 H' xs' nw h0 hp hl' hdd
      cases hS : S (ds.map Sl.val ++ (Sl.own es :: List.replicate (N.length - (n + 1)) Sl.no)) with
      | nx ρ => rw [hS] at kk; exact fin ρ kk
      | rn ρ => rw [hS] at kk; exact fin ρ kk
      | bad => rw [hS] at kk; exact kk.bad
/-! ### its call -/
section
variable {X : Cx} {K : PySem.W.Frag} {mg : Str → Option Value} {E : XK} {pos : Pos} {e : Expr} {es : List Expr}
/-- frozen arguments, then the list in slot i -/
def tAO (K : PySem.W.Frag) (mg : Str → Option Value) (E : XK) (i : Nat) (f : Env → Res (List PyData)) : TA := fun σ H Q => ∃ B0 B ρ ts, SOk K B0 B ρ ts σ H ∧ (∃ os, ρ[i]? = some (.own os)) ∧ (f ρ).go (fun ds => ∀ vs H' a, vs.length = ds.length → σ[i]? = some (some (.ref a)) → SOk K B0 B ρ (vs.zip (ds.map Sl.val) ++ ts) σ H' → Q (vs ++ [.ref a]) H') (Rz mg E B0 B)
theorem ao_own {i : Nat} {x : Str} {p : Pos} (hN : X.N[i]? = some x) (hv : Vis X.env.scope x) (hd : (x == ("__debug__" : Str)) = false := by decide) (hcd : (x == ("__classdict__" : Str)) = false := by decide) (hs : starEach [.Name x p] X.env = (false, eval (.Name x p) X.env) :: starEach [] X.env := by rfl) : PA X [.Name x p] (tAO K mg E i eNil) :=
  pa_weak (pa_cons (pe_var hN hv hd hcd) pa_nil hs) fun σ H Q ⟨B0, B, ρ, ts, ok, ⟨os, ho⟩, q⟩ => by
    obtain ⟨a, ha, _⟩ := own_at ok ho
    exact ⟨.ref a, ha, q.ok [] H a rfl ha ok⟩
theorem ao_cons {i : Nat} {f : Env → Res PyData} {g : Env → Res (List PyData)} (ha : PE X e (tD K mg E f)) (hr : PA X es (tAO K mg E i g)) (hs : starEach (e :: es) X.env = (false, eval e X.env) :: starEach es X.env := by rfl) : PA X (e :: es) (tAO K mg E i (eCons f g)) :=
  pa_weak (pa_cons ha hr hs) fun σ H Q ⟨B0, B, ρ, ts, ok, ho, q⟩ => ⟨B0, B, ρ, ts, ok, q.go_bind.go_mono fun x k v H1 ok1 => ⟨B0, B, ρ, _, ok1, ho, k.go_bind.go_mono fun xs k2 vs H2 a hl ha ok2 => by
    refine k2.ok (v :: vs) H2 a (by simp [hl]) ha (ok2.sub fun p hp => ?_)
    rw [List.map_cons, List.zip_cons_cons] at hp
    rcases List.mem_cons.mp hp with z | z
    · rw [z]; exact List.mem_append_right _ List.mem_cons_self
    · rcases List.mem_append.mp z with z | z
      · exact List.mem_append_left _ z
      · exact List.mem_append_right _ (List.mem_cons_of_mem _ z)⟩⟩
/-- the heap without what lies at a -/
def less (H : Hp) (a : Addr) : Hp := fun b => if b = a then none else H b
theorem less_is (H : Hp) (a : Addr) : Less H (less H a) a := ⟨if_pos rfl, fun b hb => if_neg hb⟩
/-- behind the call the list is another one -/
theorem SOk.after {B0 B : Hp} {ρ : Env} {ts : List (V × Sl)} {σ : St} {H H0 H0' H' : Hp} {i : Nat} {os es : List PyData} {a : Addr} {xs : List V} (av : AllVal ts) (n : Nw B0 B H0 H) (s : Slots K B H0 H σ ρ) (t : ∀ p ∈ ts, SlOk K B H0 H p.1 p.2) (hi : ρ[i]? = some (.own os)) (ha : σ[i]? = some (some (.ref a)))
    (n' : Nw H0 (less H a) H0' H') (z : H0' a = none) (hp : H' a = some (.lst xs)) (hl : xs.length ≤ sizeLine) (hd : DqAll K H0' xs es) : SOk K B0 B (ρ.set i (.own es)) ts σ H' := by
  obtain ⟨v, e1, b, ys, e2, hB, h0, hpa, _, _⟩ := s.at_ i _ hi (by simp)
  rw [ha] at e1
  have e1 : V.ref a = v := Option.some.inj (Option.some.inj e1)
  rw [← e1] at e2
  cases e2
  have hilt : i < ρ.length := (List.getElem?_eq_some_iff.mp hi).1
  have nw : Nw B0 B H0' H' := by
    refine ⟨n.a.trans n'.a, n'.b, fun p o q => ?_, fun p o q => ?_⟩
    · have ne : p ≠ a := fun w => by rw [w, hB] at q; cases q
      exact n'.c p o (by show (if p = a then none else H p) = _; rw [if_neg ne]; exact n.c p o q)
    · rcases n'.d p o q with w | w
      · exact n.d p o w
      · by_cases pa : p = a
        · rw [pa]; exact .inr hB
        · have w : (if p = a then none else H p) = none := w
          rw [if_neg pa] at w
          exact .inr (n.c.none w)
  have keep : ∀ (w : V) (sl : Sl), SlOk K B H0 H w sl → (∀ es', sl = .own es' → w ≠ .ref a) → SlOk K B H0' H' w sl := fun w sl q ne => by
    cases sl with
    | no => trivial
    | val d => exact Dq.mono n'.a q
    | own es' =>
      obtain ⟨c, zs, e, hB', h0', hp', hl', hd'⟩ := q
      have ca : c ≠ a := fun w => ne es' rfl (by rw [e, w])
      refine ⟨c, zs, e, hB', ?_, n'.c c _ (by show (if c = a then none else H c) = _; rw [if_neg ca]; exact hp'), hl', hd'.mono n'.a⟩
      cases k : H0' c with
      | none => rfl
      | some o =>
        rcases n'.d c o k with w | w
        · rw [h0'] at w; cases w
        · have w : (if c = a then none else H c) = none := w
          rw [if_neg ca, hp'] at w; cases w
  refine ⟨H0', nw, ⟨by rw [List.length_set]; exact s.len, fun j sl e ne => ?_, fun j k ds' es' b hjk ej ek q1 q2 => ?_⟩, fun p hp' => ?_⟩
  · by_cases hj : i = j
    · subst hj
      rw [List.getElem?_set, if_pos rfl, if_pos hilt] at e
      cases e
      exact ⟨.ref a, ha, a, xs, rfl, hB, z, hp, hl, hd⟩
    · rw [List.getElem?_set, if_neg hj] at e
      obtain ⟨w, e1', q⟩ := s.at_ j sl e ne
      refine ⟨w, e1', keep w sl q fun es' hs hw => ?_⟩
      subst hs hw
      exact s.dis i j os es' a hj hi e ha e1'
  · have back : ∀ (m : Nat) (ds : List PyData), (ρ.set i (.own es))[m]? = some (.own ds) → ∃ ds', ρ[m]? = some (.own ds') := fun m ds em => by
      by_cases hm : i = m
      · exact ⟨os, by rw [← hm]; exact hi⟩
      · rw [List.getElem?_set, if_neg hm] at em
        exact ⟨ds, em⟩
    obtain ⟨d1, k1⟩ := back j ds' ej
    obtain ⟨d2, k2⟩ := back k es' ek
    exact s.dis j k d1 d2 b hjk k1 k2 q1 q2
  · refine keep p.1 p.2 (t p hp') fun es' hs => ?_
    obtain ⟨d, hd⟩ := av p hp'
    rw [hd] at hs
    cases hs
def jCall (i : Nat) (F : List PyData → List PyData → Res (List PyData)) (f : Env → Res (List PyData)) : Env → RJ := fun ρ => match ρ[i]? with
  | some (.own os) => ofJ (f ρ) fun ds => ofJ (F ds os) fun es => .nx (ρ.set i (.own es))
  | _ => .bad
def sCallO (i : Nat) (F : List PyData → List PyData → Res (List PyData)) (f : Env → Res (List PyData)) : Env → RS := fun ρ => match ρ[i]? with
  | some (.own os) => ofR (f ρ) fun ds => match F ds os with
    | .ok es => .nx (ρ.set i (.own es))
    | _ => .bad
  | _ => .bad
/-- a callee that writes its last argument -/
structure CalO (P : Program) (w : World) (K : PySem.W.Frag) (mg : Str → Option Value) (base : Heap) (k : Nat) (x : Str) (ps : List Str) (F : List PyData → List PyData → Res (List PyData)) : Prop where
  ex : ∃ (f : Addr) (fd : FuncData), FnOk P w K mg base (L2.CX P w) k f fd ps (spO K F) ∧ mg x = some (.ref f) ∧ PySem.W.keepIn K (.ref f) = true ∧ Binds K fd ps []
theorem CalO.mono {P : Program} {w : World} {base : Heap} {j k : Nat} {x : Str} {ps : List Str} {F : List PyData → List PyData → Res (List PyData)} (C : CalO P w K mg base j x ps F) (h : j ≤ k) : CalO P w K mg base k x ps F := let ⟨f, fd, G, r⟩ := C.ex; ⟨f, fd, G.mono h, r⟩
theorem j_call {J : St → Prop} {i k : Nat} {x : Str} {ps : List Str} {p : Pos} {F : List PyData → List PyData → Res (List PyData)} {f : Env → Res (List PyData)} (C : CalO X.prog X.w X.K X.mg X.base k x ps F) (hr : Room k X.A) (hg : Gl X x) (ha : PA X (e :: es) (tAO X.K X.mg E i f))
    (hdb : (x == ("__debug__" : Str)) = false := by decide) (he : starEach (e :: es) X.env = (false, eval e X.env) :: starEach es X.env := by rfl) (hpl : (backTo pos (starEach es X.env)).any (·.1) = false := by rfl) {spos : Pos}
    (hsw : swapsWith (.Call (.Name x p) (e :: es) [] pos) none spos.line X.env = pure false := by rfl) : PS X (.Expr (.Call (.Name x p) (e :: es) [] pos) spos) (tJ J X.K (jCall i F f)) := by
  obtain ⟨fa, fd, G, hm, hk, hb⟩ := C.ex
  refine ps_weak (ps_expr (pe_call G hr hg hm hk hb .nil passL ha hdb he hpl) hsw) fun D σ H ⟨B0, B, ρ, ts, ok, av, j, q⟩ => ?_
  unfold jCall at q
  split at q
  · rename_i os ho
    refine ⟨B0, B, ρ, ts, ok, ⟨os, ho⟩, (ofJ_go q).go_mono fun ds kk vs H1 a hl haa ok1 => ?_⟩
    obtain ⟨H0, n, s, t⟩ := id ok1
    have t' : ∀ p ∈ ts, SlOk X.K B H0 H1 p.1 p.2 := fun p hp => t p (List.mem_append_right _ hp)
    obtain ⟨v, e1, b, xs, e2, hB, h0, hp, hz, hx⟩ := s.at_ i _ ho (by simp)
    rw [haa] at e1
    have e1 : V.ref a = v := Option.some.inj (Option.some.inj e1)
    rw [← e1] at e2
    cases e2
    refine ⟨H0, less H1 a, vs, ds, a, xs, os, by rw [List.append_nil], less_is H1 a, fun b o hb => ?_, vals_all (B := B) (H := H1) hl fun p hp => t p (List.mem_append_left _ hp), hp, hz, hx, ?_⟩
    · have ne : b ≠ a := fun w => by rw [w, h0] at hb; cases hb
      show (if b = a then none else H1 b) = _
      rw [if_neg ne]; exact n.b b o hb
    · exact (ofJ_go kk).go_mono fun es' k2 H0' H' xs' nw z hp' hl' hd' => k2 σ H' (SOk.after av n s t' ho haa nw z hp' hl' hd') j
  · exact False.elim q
theorem s_callO {i k : Nat} {x : Str} {ps : List Str} {p : Pos} {F : List PyData → List PyData → Res (List PyData)} {f : Env → Res (List PyData)} (C : CalO X.prog X.w X.K X.mg X.base k x ps F) (hr : Room k X.A) (hg : Gl X x) (ha : PA X (e :: es) (tAO X.K X.mg E i f))
    (hdb : (x == ("__debug__" : Str)) = false := by decide) (he : starEach (e :: es) X.env = (false, eval e X.env) :: starEach es X.env := by rfl) (hpl : (backTo pos (starEach es X.env)).any (·.1) = false := by rfl) {spos : Pos}
    (hsw : swapsWith (.Call (.Name x p) (e :: es) [] pos) none spos.line X.env = pure false := by rfl) : PS X (.Expr (.Call (.Name x p) (e :: es) [] pos) spos) (tS X.K X.mg E (sCallO i F f)) := by
  obtain ⟨fa, fd, G, hm, hk, hb⟩ := C.ex
  refine ps_weak (ps_expr (pe_call G hr hg hm hk hb .nil passL ha hdb he hpl) hsw) fun D σ H ⟨B0, B, ρ, ts, ok, av, q⟩ => ?_
  have q := q.out
  unfold sCallO at q
  split at q
  · rename_i os ho
    have q : (ofR (f ρ) fun ds => match F ds os with
      | .ok es => RS.nx (ρ.set i (.own es))
      | _ => .bad).go X.K X.mg E B0 B ts D := ⟨q⟩
    refine ⟨B0, B, ρ, ts, ok, ⟨os, ho⟩, (ofR_go q).go_mono fun ds kk vs H1 a hl haa ok1 => ?_⟩
    obtain ⟨H0, n, s, t⟩ := id ok1
    have t' : ∀ p ∈ ts, SlOk X.K B H0 H1 p.1 p.2 := fun p hp => t p (List.mem_append_right _ hp)
    obtain ⟨v, e1, b, xs, e2, hB, h0, hp, hz, hx⟩ := s.at_ i _ ho (by simp)
    rw [haa] at e1
    have e1 : V.ref a = v := Option.some.inj (Option.some.inj e1)
    rw [← e1] at e2
    cases e2
    refine ⟨H0, less H1 a, vs, ds, a, xs, os, by rw [List.append_nil], less_is H1 a, fun b o hb => ?_, vals_all (B := B) (H := H1) hl fun p hp => t p (List.mem_append_left _ hp), hp, hz, hx, ?_⟩
    · have ne : b ≠ a := fun w => by rw [w, h0] at hb; cases hb
      show (if b = a then none else H1 b) = _
      rw [if_neg ne]; exact n.b b o hb
    · cases hF : F ds os with
      | ok es' =>
        rw [hF] at kk
        exact ⟨fun H0' H' xs' nw z hp' hl' hd' => kk.out σ H' (SOk.after av n s t' ho haa nw z hp' hl' hd')⟩
      | err x => rw [hF] at kk; exact kk.out.elim
      | bad => rw [hF] at kk; exact kk.out.elim
  · exact q.elim
theorem calO_of {P : Program} {w : World} {base : Heap} {x : Str} {st : Stmt} {f : Addr} {fd : FuncData} {ps : List Str} {k : Nat} {F : List PyData → List PyData → Res (List PyData)} (Fn : Fun K x x st f fd) (hm : mg x = some (.ref f)) (G : FnOk P w K mg base (L2.CX P w) k f fd ps (spO K F)) (hb : Binds K fd ps []) : CalO P w K mg base k x ps F := ⟨f, fd, G, hm, Fn.kp, hb⟩
theorem defO_bad {P : Program} {w : World} {base : Heap} {x qual : Str} {st : Stmt} {f : Addr} {fd : FuncData} {N ps : List Str} {k : Nat} (F : Fun K x qual st f fd) (sc : FnScope N ps (defScope st)) : FnOk P w K mg base (L2.CX P w) (k + 1) f fd ps (spO K fun _ _ => .bad) :=
  F.okX sc (fun vs H Q E ⟨_, _, _, _, _, _, _, _, _, _, _, _, _, _, kk⟩ => kk.bad) fun cdv A outer s H vs Q E hr ⟨_, _, _, _, _, _, _, _, _, _, _, _, _, _, kk⟩ => kk.bad
end
theorem keepJ {n i : Nat} {x : Option (Option V)} (h : i ≠ n) (σ : St) (v : Option V) (j : σ[n]? = x) : (σ.set i v)[n]? = x := by rw [List.getElem?_set, if_neg h]; exact j
end DL

namespace DL
open PySem L2

/-! ### sorted(set(x)): pairs of small ints -/
abbrev Pr := Int × Int
def pE (e : Pr) : PyData := .tuple [.int e.1, .int e.2]
def ltP (x y : Pr) : Bool := decide (x.1 < y.1) || (decide (x.1 = y.1) && decide (x.2 < y.2))
def insP (k : Pr) : List Pr → List Pr
  | [] => [k]
  | x :: xs => if ltP k x = true then k :: x :: xs else if k = x then x :: xs else x :: insP k xs
def usortP : List Pr → List Pr
  | [] => []
  | x :: xs => insP x (usortP xs)
theorem ltP_tri (x y : Pr) : ltP x y = true ∨ x = y ∨ ltP y x = true := by
  obtain ⟨a, b⟩ := x
  obtain ⟨c, d⟩ := y
  simp [ltP]
  omega
theorem ltP_trans {x y z : Pr} (h : ltP x y = true) (k : ltP y z = true) : ltP x z = true := by
  obtain ⟨a, b⟩ := x
  obtain ⟨c, d⟩ := y
  obtain ⟨e, f⟩ := z
  simp [ltP] at *
  omega
theorem ltP_irr (x : Pr) : ltP x x = false := by simp [ltP]
theorem mem_insP {k j : Pr} : ∀ {xs : List Pr}, j ∈ insP k xs ↔ j = k ∨ j ∈ xs
  | [] => by simp [insP]
  | x :: xs => by
    unfold insP
    split
    · simp
    · split
      · rename_i h; subst h; simp
      · rw [List.mem_cons, mem_insP, List.mem_cons]
        constructor
        · rintro (h | h | h)
          · exact .inr (.inl h)
          · exact .inl h
          · exact .inr (.inr h)
        · rintro (h | h | h)
          · exact .inr (.inl h)
          · exact .inl h
          · exact .inr (.inr h)
theorem insP_lt {k : Pr} : ∀ {xs : List Pr}, xs.Pairwise (fun x y => ltP x y = true) → (insP k xs).Pairwise (fun x y => ltP x y = true)
  | [], _ => List.pairwise_singleton _ _
  | x :: xs, h => by
    rw [List.pairwise_cons] at h
    unfold insP
    split
    · rename_i hk
      refine List.pairwise_cons.mpr ⟨fun y hy => ?_, List.pairwise_cons.mpr h⟩
      rcases List.mem_cons.mp hy with z | z
      · rw [z]; exact hk
      · exact ltP_trans hk (h.1 y z)
    · split
      · exact List.pairwise_cons.mpr h
      · rename_i h1 h2
        refine List.pairwise_cons.mpr ⟨fun y hy => ?_, insP_lt h.2⟩
        rcases mem_insP.mp hy with z | z
        · rw [z]
          rcases ltP_tri x k with q | q | q
          · exact q
          · exact absurd q.symm h2
          · exact absurd q h1
        · exact h.1 y z
theorem usortP_lt : ∀ xs : List Pr, (usortP xs).Pairwise (fun x y => ltP x y = true)
  | [] => .nil
  | _ :: xs => insP_lt (usortP_lt xs)
theorem mem_usortP {k : Pr} : ∀ {xs : List Pr}, k ∈ usortP xs ↔ k ∈ xs
  | [] => Iff.rfl
  | x :: xs => by rw [usortP, mem_insP, mem_usortP, List.mem_cons]
theorem ascP_unique : ∀ {xs ys : List Pr}, xs.Pairwise (fun x y => ltP x y = true) → ys.Pairwise (fun x y => ltP x y = true) → (∀ k, k ∈ xs ↔ k ∈ ys) → xs = ys
  | [], [], _, _, _ => rfl
  | [], y :: ys, _, _, h => nomatch ((h y).mpr List.mem_cons_self)
  | x :: xs, [], _, _, h => nomatch ((h x).mp List.mem_cons_self)
  | x :: xs, y :: ys, hx, hy, h => by
    rw [List.pairwise_cons] at hx hy
    have no : ∀ {a b : Pr}, ltP a b = true → ltP b a = true → False := fun p q => by
      have := ltP_trans p q
      rw [ltP_irr] at this
      cases this
    have e : x = y := by
      rcases List.mem_cons.mp ((h x).mp List.mem_cons_self) with z | z
      · exact z
      · rcases List.mem_cons.mp ((h y).mpr List.mem_cons_self) with z' | z'
        · exact z'.symm
        · exact (no (hx.1 y z') (hy.1 x z)).elim
    subst e
    rw [ascP_unique hx.2 hy.2 fun k => ?_]
    constructor
    · intro hk
      rcases List.mem_cons.mp ((h k).mp (List.mem_cons_of_mem _ hk)) with z | z
      · subst z
        have := hx.1 k hk
        rw [ltP_irr] at this
        cases this
      · exact z
    · intro hk
      rcases List.mem_cons.mp ((h k).mpr (List.mem_cons_of_mem _ hk)) with z | z
      · subst z
        have := hy.1 k hk
        rw [ltP_irr] at this
        cases this
      · exact z
def prsOf : List PyData → Option (List Pr)
  | [] => some []
  | .tuple [.int a, .int b] :: ds => (prsOf ds).map ((a, b) :: ·)
  | _ :: _ => none
theorem prsOf_map : ∀ es : List Pr, prsOf (es.map pE) = some es
  | [] => rfl
  | e :: es => by
    rw [List.map_cons]
    show (prsOf (es.map pE)).map _ = _
    rw [prsOf_map es]
    rfl
theorem prsOf_eq : ∀ {ds : List PyData} {es : List Pr}, prsOf ds = some es → ds = es.map pE
  | [], _, h => by cases h; rfl
  | d :: ds, es, h => by
    unfold prsOf at h
    split at h
    · rename_i heq; cases heq
    · rename_i a b ds' heq
      cases heq
      cases q : prsOf ds with
      | none => rw [q] at h; cases h
      | some es' =>
        rw [q] at h
        cases h
        rw [prsOf_eq q]
        rfl
    · cases h
def smallP (es : List Pr) : Bool := es.all fun e => decide (0 ≤ e.1 ∧ e.1 < 64) && decide (0 ≤ e.2 ∧ e.2 < 64)
def setP : PyData → Option (List Pr)
  | .list ds => (prsOf ds).bind fun es => if es.length < 64 ∧ smallP es = true then some es else none
  | _ => none
theorem setP_is {d : PyData} {es : List Pr} (h : setP d = some es) : d = .list (es.map pE) ∧ es.length < 64 ∧ ∀ e ∈ es, (0 ≤ e.1 ∧ e.1 < 64) ∧ (0 ≤ e.2 ∧ e.2 < 64) := by
  cases d with
  | list ds =>
    have h : ((prsOf ds).bind fun es => if es.length < 64 ∧ smallP es = true then some es else none) = some es := h
    cases q : prsOf ds with
    | none => rw [q] at h; cases h
    | some fs =>
      rw [q] at h
      have h : (if fs.length < 64 ∧ smallP fs = true then some fs else none) = some es := h
      split at h
      · rename_i c
        cases h
        refine ⟨by rw [prsOf_eq q], c.1, fun e he => ?_⟩
        have := List.all_eq_true.mp c.2 e he
        simpa using this
      · cases h
  | _ => cases h
def eSortedSetP (f : Env → Res PyData) : Env → Res PyData := fun ρ => (f ρ).bind fun d => match setP d with
  | some es => .ok (.list ((usortP es).map pE))
  | none => .bad
section
variable {X : Cx} {mg : Str → Option Value} {E : XK} {pos p p2 q : Pos} {a : Expr} {f : Env → Res PyData} {k : Nat}
theorem prs_refs {K : PySem.W.Frag} {H : Hp} : ∀ {es : List Pr} {vs : List V}, DqAll K H vs (es.map pE) → ∃ ks : List (Addr × List Int), vs = ks.map (fun p => V.ref p.1) ∧ ks.map (·.2) = es.map (fun e => [e.1, e.2]) ∧ ∀ p ∈ ks, TupG H p.1 (p.2.map V.int)
  | [], _, h => by cases h; exact ⟨[], rfl, rfl, fun _ h => nomatch h⟩
  | e :: es, _, h => by
    rw [List.map_cons] at h
    cases h with
    | cons r t =>
      obtain ⟨ks, h1, h2, h3⟩ := prs_refs t
      have r : Dq K H _ (.tuple (([e.1, e.2] : List Int).map PyData.int)) := r
      cases r with
      | tup hp hl hd =>
        have := hd.ints_inv
        subst this
        rename_i b
        refine ⟨(b, [e.1, e.2]) :: ks, by rw [h1]; rfl, by rw [List.map_cons, h2]; rfl, fun x hx => ?_⟩
        rcases List.mem_cons.mp hx with z | z
        · rw [z]; exact hp
        · exact h3 x z
theorem dSortedSetP (T : Blt X.mg) (hr : Room k X.A) (hc : X.calm = true) (hg : Gl X "sorted") (hg2 : Gl X "set") (ha : PE X a (tSh X.K mg E f)) (na : starEach [a] X.env = (false, eval a X.env) :: starEach [] X.env := by rfl) (na2 : (backTo q (starEach [] X.env)).any (·.1) = false := by rfl)
    (nb : starEach [.Call (.Name "set" p2) [a] [] q] X.env = (false, eval (.Call (.Name "set" p2) [a] [] q) X.env) :: starEach [] X.env := by rfl) (nb2 : (backTo pos (starEach [] X.env)).any (·.1) = false := by rfl) :
    PE X (.Call (.Name "sorted" p) [.Call (.Name "set" p2) [a] [] q] [] pos) (tD X.K mg E (eSortedSetP f)) :=
  pe_weak (pe_callB (cr_sortedT hc) hg T.sorted (by decide +kernel) (pa_cons (pe_callTy (cr_setOfT hc (by have := hr.un; omega)) hg2 T.set boot_set' (pa_cons ha pa_nil na) (by decide) (by decide) na na2) pa_nil nb) (by decide) (by decide) nb nb2) fun σ H Q ⟨B0, B, ρ, ts, ok, kk⟩ =>
    ⟨B0, B, ρ, ts, ok, kk.go_bind.go_mono fun d kd v sl H1 ne e o => by
      subst e
      cases hs : setP (dat sl) with
      | none => rw [hs] at kd; exact kd.bad
      | some es =>
        rw [hs] at kd
        obtain ⟨hd, hl, hb⟩ := setP_is hs
        obtain ⟨H0, n, sS, t⟩ := id o
        have t' : ∀ p ∈ ts, SlOk X.K B H0 H1 p.1 p.2 := fun p hp => t p (by simp [hp])
        obtain ⟨l, us, ea, hla, hz, da⟩ := (show SlOk X.K B H0 H1 v sl from t (v, sl) (by simp)).lst n.b hd
        subst ea
        obtain ⟨ks, k1, k2, k3⟩ := prs_refs da
        subst k1
        have klen : ks.length = es.length := by
          have := congrArg List.length k2
          simpa using this
        refine ⟨l, ks, rfl, SqL.of hla, fun p hp => ((k3 p hp).mono n.b).sq, by omega, fun sa L hsa s1 s2 => ?_⟩
        have inks : ∀ p ∈ ks, ∃ e ∈ es, p.2 = [e.1, e.2] := fun p hp => by
          have : p.2 ∈ ks.map (·.2) := List.mem_map.mpr ⟨p, hp, rfl⟩
          rw [k2] at this
          obtain ⟨e, he, q⟩ := List.mem_map.mp this
          exact ⟨e, he, q.symm⟩
        have grow1 : Nw H0 H1 H0 (upd H1 sa (SetTO X.prog X.w sa L)) := (Nw.refl n.b).fresh hsa
        refine ⟨sa, L, 2, 64, rfl, upd_same, fun p hp => ((k3 p (s1 p hp)).mono grow1.b).sq, by decide, fun p hp => ?_, fun L' pp pm nd few pw hpp => ?_⟩
        · obtain ⟨e, he, q⟩ := inks p (s1 p hp)
          rw [q]
          have := hb e he
          refine ⟨rfl, fun m hm => ?_⟩
          rcases List.mem_cons.mp hm with z | z
          · rw [z]; exact this.1
          · rw [List.mem_singleton.mp z]; exact this.2
        · have inL : ∀ p ∈ L', ∃ e ∈ es, p.2 = [e.1, e.2] := fun p hp => inks p (s1 p (pm.mem_iff.mp hp))
          let pr : Addr × List Int → Pr := fun p => (p.2.headD 0, (p.2.tail).headD 0)
          have asc : (L'.map pr).Pairwise (fun x y => ltP x y = true) := by
            rw [List.pairwise_map]
            have nd' : L'.Pairwise fun x y => x.2 ≠ y.2 := List.pairwise_map.mp nd
            refine (pw.and nd').imp_of_mem fun {x y} hx hy h => ?_
            obtain ⟨e, he, q⟩ := inL x hx
            obtain ⟨e', he', q'⟩ := inL y hy
            obtain ⟨h1, h2⟩ := h
            rw [q, q'] at h1 h2
            have be := hb e he
            have be' := hb e' he'
            have := pair_lt h1 h2 be.1 be.2 be'.1 be'.2
            simp only [pr, q, q', ltP]
            simpa using this
          have memP : ∀ e, e ∈ L'.map pr ↔ e ∈ usortP es := fun e => by
            rw [mem_usortP, List.mem_map]
            constructor
            · rintro ⟨x, hx, rfl⟩
              obtain ⟨e', he', q⟩ := inL x hx
              simp only [pr, q]
              exact he'
            · intro he
              have : [e.1, e.2] ∈ ks.map (·.2) := by rw [k2]; exact List.mem_map.mpr ⟨e, he, rfl⟩
              obtain ⟨x, hx, q⟩ := List.mem_map.mp this
              have := s2 x hx
              obtain ⟨y, hy, q2⟩ := List.mem_map.mp this
              refine ⟨y, pm.mem_iff.mpr hy, ?_⟩
              simp only [pr]
              rw [q2, q]
              rfl
          have eP : L'.map pr = usortP es := ascP_unique asc (usortP_lt es) memP
          have all : ∀ l : List (Addr × List Int), (∀ p ∈ l, p ∈ ks) → (∀ p ∈ l, ∃ e ∈ es, p.2 = [e.1, e.2]) → DqAll X.K H0 (l.map fun q => V.ref q.1) ((l.map pr).map pE) := by
            intro l
            induction l with
            | nil => intro _ _; exact .nil
            | cons x l ih =>
              intro h1 h2
              obtain ⟨e, he, q⟩ := h2 x (by simp)
              refine .cons ?_ (ih (fun p hp => h1 p (List.mem_cons_of_mem _ hp)) fun p hp => h2 p (List.mem_cons_of_mem _ hp))
              have hx := k3 x (h1 x (by simp))
              have e1 : pE (pr x) = .tuple (x.2.map .int) := by simp only [pr, q]; rfl
              rw [e1]
              refine .tup hx ?_ (DqAll.ints _)
              rw [q]
              show 2 ≤ sizeLine
              decide
          have dqa := all L' (fun p hp => s1 p (pm.mem_iff.mp hp)) inL
          rw [eP] at dqa
          have lz : (L'.map fun q => V.ref q.1).length ≤ sizeLine := by rw [List.length_map, sizeLine_eq]; omega
          exact kd.ok _ _ (mk_lst (n.trans grow1) (sS.grow grow1) (fun p hp => (t' p hp).grow grow1) dqa lz hpp)⟩
end
end DL

namespace DL
open PySem L2

/-! ### tuple(range(n)), list(range(n)) -/
def rgD : PyData → Res (List PyData)
  | .int n => rngD 0 n
  | _ => .bad
def eTupleRng (f : Env → Res PyData) : Env → Res PyData := fun ρ => (f ρ).bind fun d => (rgD d).bind fun ds => .ok (.tuple ds)
def eListRng (f : Env → Res PyData) : Env → Res PyData := fun ρ => (f ρ).bind fun d => (rgD d).bind fun ds => .ok (.list ds)
def eFLRng (f : Env → Res PyData) : Env → Res (List PyData) := fun ρ => (f ρ).bind rgD
section
variable {X : Cx} {mg : Str → Option Value} {E : XK} {pos p p2 q : Pos} {a : Expr} {f : Env → Res PyData}
theorem rg_all {K : PySem.W.Frag} {H : Hp} (n : Int) : DqAll K H (rgV 0 n) ((List.range (n - 0).toNat).map fun (i : Nat) => PyData.int (0 + (i : Int))) := by
  have e : rgV 0 n = ((List.range (n - 0).toNat).map fun (i : Nat) => (0 : Int) + (i : Int)).map V.int := by
    unfold rgV
    rw [List.map_map]
    rfl
  have e2 : ((List.range (n - 0).toNat).map fun (i : Nat) => PyData.int (0 + (i : Int))) = ((List.range (n - 0).toNat).map fun (i : Nat) => (0 : Int) + (i : Int)).map PyData.int := by
    rw [List.map_map]
    rfl
  rw [e, e2]
  exact DqAll.ints _
theorem rg_go {d : PyData} {P : List PyData → Prop} {R : Str → Prop} (h : (rgD d).go P R) : ∃ n : Int, d = .int n ∧ RgOk 0 n ∧ (n - 0).toNat ≤ sizeLine ∧ P ((List.range (n - 0).toNat).map fun (i : Nat) => PyData.int (0 + (i : Int))) := by
  cases d with
  | int n =>
    obtain ⟨⟨h1, h2, h3, h4, h5⟩, k⟩ := rngD_go h
    exact ⟨n, rfl, ⟨by omega, by omega, by omega, by omega, h5⟩, h5, k⟩
  | _ => exact h.bad
theorem dTupleRng (T : Blt X.mg) (hc : X.calm = true) (hg : Gl X "tuple") (hg2 : Gl X "range") (ha : PE X a (tD X.K mg E f)) (na : starEach [a] X.env = (false, eval a X.env) :: starEach [] X.env := by rfl)
    (nb : starEach [.Call (.Name "range" p2) [a] [] q] X.env = (false, eval (.Call (.Name "range" p2) [a] [] q) X.env) :: starEach [] X.env := by rfl) :
    PE X (.Call (.Name "tuple" p) [.Call (.Name "range" p2) [a] [] q] [] pos) (tD X.K mg E (eTupleRng f)) :=
  pe_weak (pe_tupRgG hc hg T.tuple (prg_1 hg2 T.range ha na) nb) fun σ H Q ⟨B0, B, ρ, ts, ok, k⟩ => ⟨B0, B, ρ, ts, ok, k.go_bind.go_mono fun d kd v H1 ok1 => by
    obtain ⟨n, rfl, rok, hz, k2⟩ := rg_go kd.go_bind
    obtain ⟨H0, nw, s, t⟩ := id ok1
    have z : SlOk X.K B H0 H1 v (.val (.int n)) := t (v, .val (.int n)) (by simp)
    refine ⟨n, z.int rfl, rok, fun w o od hw => k2.ok _ _ ?_⟩
    exact mk_tup nw s (fun p hp => t p (List.mem_cons_of_mem _ hp)) (rg_all n) (by rw [(rg_all (K := X.K) (H := H0) n).length, List.length_map, List.length_range]; exact hz) od hw⟩
theorem dListRng (T : Blt X.mg) (hc : X.calm = true) (hg : Gl X "list") (hg2 : Gl X "range") (ha : PE X a (tD X.K mg E f)) (na : starEach [a] X.env = (false, eval a X.env) :: starEach [] X.env := by rfl)
    (nb : starEach [.Call (.Name "range" p2) [a] [] q] X.env = (false, eval (.Call (.Name "range" p2) [a] [] q) X.env) :: starEach [] X.env := by rfl) :
    PE X (.Call (.Name "list" p) [.Call (.Name "range" p2) [a] [] q] [] pos) (tD X.K mg E (eListRng f)) :=
  pe_weak (pe_listRg hc hg T.list (prg_1 hg2 T.range ha na) nb) fun σ H Q ⟨B0, B, ρ, ts, ok, k⟩ => ⟨B0, B, ρ, ts, ok, k.go_bind.go_mono fun d kd v H1 ok1 => by
    obtain ⟨n, rfl, rok, hz, k2⟩ := rg_go kd.go_bind
    obtain ⟨H0, nw, s, t⟩ := id ok1
    have z : SlOk X.K B H0 H1 v (.val (.int n)) := t (v, .val (.int n)) (by simp)
    refine ⟨n, z.int rfl, rok, fun w hw => k2.ok _ _ ?_⟩
    exact mk_lst nw s (fun p hp => t p (List.mem_cons_of_mem _ hp)) (rg_all n) (by rw [(rg_all (K := X.K) (H := H0) n).length, List.length_map, List.length_range]; exact hz) hw⟩
theorem fListRng (T : Blt X.mg) (hc : X.calm = true) (hg : Gl X "list") (hg2 : Gl X "range") (ha : PE X a (tD X.K mg E f)) (na : starEach [a] X.env = (false, eval a X.env) :: starEach [] X.env := by rfl)
    (nb : starEach [.Call (.Name "range" p2) [a] [] q] X.env = (false, eval (.Call (.Name "range" p2) [a] [] q) X.env) :: starEach [] X.env := by rfl) :
    PE X (.Call (.Name "list" p) [.Call (.Name "range" p2) [a] [] q] [] pos) (tF X.K mg E (eFLRng f)) :=
  pe_weak (pe_listRg hc hg T.list (prg_1 hg2 T.range ha na) nb) fun σ H Q ⟨B0, B, ρ, ts, ok, k⟩ => ⟨B0, B, ρ, ts, ok, k.go_bind.go_mono fun d kd v H1 ok1 => by
    obtain ⟨n, rfl, rok, hz, k2⟩ := rg_go kd
    obtain ⟨H0, nw, s, t⟩ := id ok1
    have z : SlOk X.K B H0 H1 v (.val (.int n)) := t (v, .val (.int n)) (by simp)
    refine ⟨n, z.int rfl, rok, fun w hw => ?_⟩
    obtain ⟨h1, h2⟩ := ok1.drop.newOwn (vs := rgV 0 n) (fun _ _ _ _ => rg_all n) (by rw [(rg_all (K := X.K) (H := H0) n).length, List.length_map, List.length_range]; exact hz) hw
    exact k2 w _ h1 h2⟩
end
end DL

namespace DL
open PySem PySem.Spec PyProof.Rows L2

/-! ### methods of a tuple -/
section
variable {X : Cx} {o e : Expr} {es : List Expr} {to : TE} {t : TA} {name : Str} {apos cpos : Pos} {id : String} {r : V → List V → Hp → VK → Prop}
theorem tupG_ty {pins : List (Addr × Obj)} {σ : L2.St} {H : Hp} {s : Shared} (I : L2.Inv X pins σ H s) {a : Addr} {xs : List V} (h : TupG H a xs) : s.TypeIs (.ref a) "tuple" ∧ ∀ b, Value.ref a = .ref b → ∃ ob, s.heap.get? b = some ob ∧ ob.dict = none := by
  obtain ⟨o, od, ho⟩ := h
  obtain ⟨g, _, its, _, ⟨o', g', oc, _⟩⟩ := (show ObjOk X.prog X.w H s.heap a (FT o xs) from I.hok a _ ho)
  refine ⟨⟨o', g', oc⟩, fun b q => ?_⟩
  cases q
  exact ⟨o, g, od⟩
def tBMT (r : V → List V → Hp → VK → Prop) (to : TE) (t : TA) : TE := fun σ H Q => to σ H fun x H1 => (∃ a xs, x = .ref a ∧ TupG H1 a xs) ∧ t σ H1 fun xs H2 => r x xs H2 Q
theorem pe_bmT (slot : Slot "tuple" name id) (hty : typeOf (.builtin id) = pure (.type "method_descriptor")) (hm : MtR X id r) (ho : PE X o to) (ha : PA X (e :: es) t)
    (hbase : attributeBase o name X.env (eval o X.env) = eval o X.env := by rfl)
    (hfew : ((backTo cpos (starEach (e :: es) X.env)).all (fun x => !x.1) && (backToKw cpos (keywordEach [] X.env)).all (fun x => x.1.isSome) && decide ((e :: es).length + ([] : List Keyword).length + (if ([] : List Keyword).isEmpty then 0 else 1) < 30)) = true := by rfl)
    (hline : (apos.endLine == cpos.line) = true := by rfl) (hs : starEach (e :: es) X.env = (false, eval e X.env) :: starEach es X.env := by rfl) (hplain : (backTo cpos (starEach es X.env)).any (·.1) = false := by rfl) : PE X (.Call (.Attribute o name apos) (e :: es) [] cpos) (tBMT r to t) := ⟨fun pins s σ H Q I h => by
  refine wpAny_Call_method_late hbase hfew hline rfl (thn (ho.run pins s σ H _ I h) fun v s1 ⟨x, H1, I1, rx, ⟨a, xs, ex, tg⟩, k⟩ => ?_)
  subst ex
  cases rx
  obtain ⟨w1, w2⟩ := tupG_ty I1 tg
  refine ⟨"tuple", id, PySem.F.plainAttrs_tuple, slot, hty, w1, w2, ?_⟩
  have run := ha.run cpos pins s1 σ H1 _ I1 k
  rw [hs] at run ⊢
  exact Calls.callWith_builtin (by show (false || (backTo cpos (starEach es X.env)).any (·.1)) = false; rw [hplain]; rfl) (Calls.evalArgs_plain (thn run fun us s2 ⟨vs, H2, I2, r2, k2⟩ => hm pins s2 σ H2 (.ref a) vs _ us Q I2 rfl r2 k2))⟩
end

/-! ### count, index, remove: by data -/
def rCnt (b : Bool) (K : PySem.W.Frag) : V → List V → Hp → VK → Prop := fun x xs H Q => ∃ (a : Addr) (y : V) (d : PyData) (ds : List PyData), x = .ref a ∧ xs = [y] ∧ Dp K H (.ref a) (if b then .list ds else .tuple ds) ∧ Dp K H y d ∧
  PyData.plainAll ds = true ∧ d.plain = true ∧ d.depth ≤ 64 ∧ Q (.int ((ds.countP fun z => PyData.eqv z d : Nat) : Int)) H
def rIdx (K : PySem.W.Frag) : V → List V → Hp → VK → Prop := fun x xs H Q => ∃ (a : Addr) (y : V) (d : PyData) (ds : List PyData) (j : Nat), x = .ref a ∧ xs = [y] ∧ Dp K H (.ref a) (.tuple ds) ∧ Dp K H y d ∧
  PyData.plainAll ds = true ∧ d.plain = true ∧ d.depth ≤ 64 ∧ PySem.SeqAt.dataPlace ds d = some j ∧ Q (.int (j : Int)) H
def rRem (K : PySem.W.Frag) : V → List V → Hp → VK → Prop := fun x xs H Q => ∃ (a : Addr) (y : V) (d : PyData) (vs : List V) (ds : List PyData) (j : Nat), x = .ref a ∧ xs = [y] ∧ H a = some (.lst vs) ∧ DpAll K H vs ds ∧ Dp K H y d ∧
  PyData.plainAll ds = true ∧ d.plain = true ∧ d.depth ≤ 64 ∧ PySem.SeqAt.dataPlace ds d = some j ∧ Q .non (upd H a (.lst (vs.eraseIdx j)))
section
variable {X : Cx}
theorem mt_cntL (hu : X.A.units + 65 < cLine) : MtR X "list.count" (rCnt true X.K) := fun pins s σ H x xs v us Q I rx rxs h => by
  obtain ⟨a, y, d, ds, ex, exs, hl, hy, p1, p2, p3, k⟩ := h
  subst ex
  subst exs
  cases rx
  obtain ⟨u, eu, ru⟩ := rxs.one
  subst eu
  obtain ⟨bs, r1⟩ := Dp.reads I d y u hy ru
  have hl : Dp X.K H (.ref a) (.list ds) := hl
  cases hl with
  | lst sq all =>
    obtain ⟨its, rv, pl, _⟩ := I.list sq
    obtain ⟨as, r2⟩ := Dp.readsAll I ds _ its all rv
    exact PySem.SeqAt.count_list_data pl.isList (show ReadsAll s.heap its.toArray.toList ds as from r2) r1 p1 p2 (by have := Nat.min_le_right (PyData.depthAll ds) d.depth; omega) ⟨.int _, H, I.tok _, ⟨_, rfl⟩, k⟩
theorem mt_cntT (hu : X.A.units + 65 < cLine) : MtR X "tuple.count" (rCnt false X.K) := fun pins s σ H x xs v us Q I rx rxs h => by
  obtain ⟨a, y, d, ds, ex, exs, hl, hy, p1, p2, p3, k⟩ := h
  subst ex
  subst exs
  cases rx
  obtain ⟨u, eu, ru⟩ := rxs.one
  subst eu
  obtain ⟨bs, r1⟩ := Dp.reads I d y u hy ru
  have hl : Dp X.K H (.ref a) (.tuple ds) := hl
  cases hl with
  | tup sq all =>
    obtain ⟨its, rv, pl, _⟩ := I.tuple sq
    obtain ⟨as, r2⟩ := Dp.readsAll I ds _ its all rv
    exact PySem.SeqAt.count_tuple_data pl (show ReadsAll s.heap its.toArray.toList ds as from r2) r1 p1 p2 (by have := Nat.min_le_right (PyData.depthAll ds) d.depth; omega) ⟨.int _, H, I.tok _, ⟨_, rfl⟩, k⟩
theorem mt_idxT (hu : X.A.units + 65 < cLine) : MtR X "tuple.index" (rIdx X.K) := fun pins s σ H x xs v us Q I rx rxs h => by
  obtain ⟨a, y, d, ds, j, ex, exs, hl, hy, p1, p2, p3, p4, k⟩ := h
  subst ex
  subst exs
  cases rx
  obtain ⟨u, eu, ru⟩ := rxs.one
  subst eu
  obtain ⟨bs, r1⟩ := Dp.reads I d y u hy ru
  cases hl with
  | tup sq all =>
    obtain ⟨its, rv, ⟨⟨cl, dd, dt, sl⟩, og, oc, n, od⟩, _⟩ := I.tuple sq
    simp only at oc od
    subst oc
    subst od
    obtain ⟨as, r2⟩ := Dp.readsAll I ds _ its all rv
    have r3 : ReadsAll s.heap its.toArray.toList ds as := r2
    obtain ⟨hj, hit, hno⟩ := PySem.SeqAt.hit_at r3 p1 p4
    exact call_meets PySem.F.slot_tuple_index ⟨_, og, rfl⟩ PySem.F.entry_tuple_index (PySem.F.args_tuple_index_2 _ _) (TI.tuple_indexAt a its.toArray n dd sl u _ j hj hit hno)
      ⟨og, PySem.SeqAt.items_plain r3 r1 p1 p2 (by have := Nat.min_le_right (PyData.depthAll ds) d.depth; omega), ⟨.int _, H, I.tok _, ⟨_, rfl⟩, k⟩⟩
theorem mt_rem (hu : X.A.units + 65 < cLine) : MtR X "list.remove" (rRem X.K) := fun pins s σ H x xs v us Q I rx rxs h => by
  obtain ⟨a, y, d, vs, ds, j, ex, exs, hH, all, hy, p1, p2, p3, p4, k⟩ := h
  subst ex
  subst exs
  cases rx
  obtain ⟨u, eu, ru⟩ := rxs.one
  subst eu
  obtain ⟨bs, r1⟩ := Dp.reads I d y u hy ru
  obtain ⟨z, its, n, rv, hl, ho⟩ := I.lstM hH
  obtain ⟨as, r2⟩ := Dp.readsAll I ds _ its all rv
  refine PySem.SeqAt.remove_list_data (l := a) (vs := its.toArray) ⟨_, ho, rfl, n, rfl⟩ (show ReadsAll s.heap its.toArray.toList ds as from r2) r1 p1 p2 (by have := Nat.min_le_right (PyData.depthAll ds) d.depth; omega) p4 (by rw [List.size_toArray]; omega) ?_
  refine ⟨.non, _, I.lset (its' := its.eraseIdx j) (t' := s.toks) hH ho ?_ (rv.eraseIdx j) ?_, rfl, k⟩
  · rw [List.eraseIdxIfInBounds_toArray]
  · exact Nat.le_trans (List.length_eraseIdx_le vs j) z
end
/-! ### the rules -/
theorem Res.go.to_bind {α β : Type} {r : Res α} {k : α → Res β} {P : β → Prop} {R : Str → Prop} (h : r.go (fun a => (k a).go P R) R) : (r.bind k).go P R := by
  cases r with
  | ok a => exact h.ok
  | err x => exact ⟨h.out⟩
  | bad => exact h.bad
theorem one_tA {K : PySem.W.Frag} {mg : Str → Option Value} {E : XK} {f : Env → Res PyData} {σ : L2.St} {H : Hp} {Q : List V → Hp → Prop} {B0 B : Hp} {ρ : Env} {ts : List (V × Sl)} (ok : SOk K B0 B ρ ts σ H) (h : (f ρ).go (fun d => ∀ v H', SOk K B0 B ρ ((v, .val d) :: ts) σ H' → Q [v] H') (Rz mg E B0 B)) : tA K mg E (eCons f eNil) σ H Q :=
  ⟨B0, B, ρ, ts, ok, Res.go.to_bind (h.go_mono fun d k => ⟨fun vs H' hl ok' => by
    cases vs with
    | nil => cases hl
    | cons v vs =>
      cases vs with
      | cons _ _ => simp at hl
      | nil => exact k v H' ok'⟩)⟩
def asT : PyData → Res (List PyData)
  | .tuple ds => .ok ds
  | _ => .bad
def asL : PyData → Res (List PyData)
  | .list ds => .ok ds
  | _ => .bad
theorem asT_go {x : PyData} {P : List PyData → Prop} {R : Str → Prop} (h : (asT x).go P R) : ∃ ds, x = .tuple ds ∧ P ds := by
  cases x with
  | tuple ds => exact ⟨ds, rfl, h.ok⟩
  | _ => exact h.bad
theorem asL_go {x : PyData} {P : List PyData → Prop} {R : Str → Prop} (h : (asL x).go P R) : ∃ ds, x = .list ds ∧ P ds := by
  cases x with
  | list ds => exact ⟨ds, rfl, h.ok⟩
  | _ => exact h.bad
def cntD (ds : List PyData) (d : PyData) : Res PyData := if PyData.plainAll ds = true ∧ okD d = true then .ok (.int ((ds.countP fun z => PyData.eqv z d : Nat) : Int)) else .bad
def idxD (ds : List PyData) (d : PyData) : Res PyData := if PyData.plainAll ds = true ∧ okD d = true then (match PySem.SeqAt.dataPlace ds d with
  | some j => .ok (.int (j : Int))
  | none => .bad) else .bad
def eCntT (f1 f2 : Env → Res PyData) : Env → Res PyData := fun ρ => (f1 ρ).bind fun x => (asT x).bind fun ds => (f2 ρ).bind fun d => cntD ds d
def eCntL (f1 f2 : Env → Res PyData) : Env → Res PyData := fun ρ => (f1 ρ).bind fun x => (asL x).bind fun ds => (f2 ρ).bind fun d => cntD ds d
def eIdxT (f1 f2 : Env → Res PyData) : Env → Res PyData := fun ρ => (f1 ρ).bind fun x => (asT x).bind fun ds => (f2 ρ).bind fun d => idxD ds d
section
variable {X : Cx} {mg : Str → Option Value} {E : XK} {o e : Expr} {apos cpos pos p : Pos} {f1 f2 f : Env → Res PyData} {k : Nat}
theorem d_cntT (hr : Room k X.A) (ho : PE X o (tSh X.K mg E f1)) (he : PE X e (tD X.K mg E f2)) (hbase : attributeBase o "count" X.env (eval o X.env) = eval o X.env := by rfl)
    (hfew : ((backTo cpos (starEach [e] X.env)).all (fun x => !x.1) && (backToKw cpos (keywordEach [] X.env)).all (fun x => x.1.isSome) && decide ([e].length + ([] : List Keyword).length + (if ([] : List Keyword).isEmpty then 0 else 1) < 30)) = true := by rfl)
    (hline : (apos.endLine == cpos.line) = true := by rfl) (hs : starEach [e] X.env = (false, eval e X.env) :: starEach [] X.env := by rfl) (hplain : (backTo cpos (starEach [] X.env)).any (·.1) = false := by rfl) :
    PE X (.Call (.Attribute o "count" apos) [e] [] cpos) (tD X.K mg E (eCntT f1 f2)) :=
  pe_weak (pe_bmT PySem.F.slot_tuple_count PySem.F.type_tuple_count (mt_cntT (by have := hr.un; omega)) ho (a_cons he a_nil hs) hbase hfew hline hs hplain) fun σ H Q ⟨B0, B, ρ, ts, ok, q⟩ => ⟨B0, B, ρ, ts, ok, q.go_bind.go_mono fun x kx v s H1 ne es ok1 => by
    obtain ⟨ds, ex, ky⟩ := asT_go kx.go_bind
    subst ex
    obtain ⟨H0, n, sl, t⟩ := id ok1
    obtain ⟨a, xs, ea, tg, lz, da⟩ := (show SlOk X.K B H0 H1 v s from t (v, s) (by simp)).tup n.b es
    refine ⟨⟨a, xs, ea, tg⟩, one_tA ok1 (ky.go_bind.go_mono fun d kd w H2 ok2 => ?_)⟩
    obtain ⟨H0', n', sl', t'⟩ := id ok2
    have hv := (show SlOk X.K B H0' H2 v s from t' (v, s) (by simp))
    have hw := (show SlOk X.K B H0' H2 w (.val d) from t' (w, .val d) (by simp))
    unfold cntD at kd
    split at kd
    · rename_i c
      subst ea
      refine ⟨a, w, d, ds, rfl, rfl, ?_, hw.dp n'.b (by simp) (okD_plain c.2), c.1, okD_plain c.2, okD_depth c.2, kd.ok _ _ (mk_val n' sl' (fun p hp => t' p (List.mem_cons_of_mem _ (List.mem_cons_of_mem _ hp))) (.int _))⟩
      have := hv.dp n'.b ne (by rw [es]; simpa [PyData.plain] using c.1)
      rw [es] at this
      exact this
    · exact kd.bad⟩
theorem d_cntL (hr : Room k X.A) (ho : PE X o (tSh X.K mg E f1)) (he : PE X e (tD X.K mg E f2)) (hbase : attributeBase o "count" X.env (eval o X.env) = eval o X.env := by rfl)
    (hfew : ((backTo cpos (starEach [e] X.env)).all (fun x => !x.1) && (backToKw cpos (keywordEach [] X.env)).all (fun x => x.1.isSome) && decide ([e].length + ([] : List Keyword).length + (if ([] : List Keyword).isEmpty then 0 else 1) < 30)) = true := by rfl)
    (hline : (apos.endLine == cpos.line) = true := by rfl) (hs : starEach [e] X.env = (false, eval e X.env) :: starEach [] X.env := by rfl) (hplain : (backTo cpos (starEach [] X.env)).any (·.1) = false := by rfl) :
    PE X (.Call (.Attribute o "count" apos) [e] [] cpos) (tD X.K mg E (eCntL f1 f2)) :=
  pe_weak (pe_bm PySem.F.plainAttrs_list PySem.F.slot_list_count PySem.F.type_list_count (mt_cntL (by have := hr.un; omega)) ho (a_cons he a_nil hs) hbase hfew hline hs hplain) fun σ H Q ⟨B0, B, ρ, ts, ok, q⟩ => ⟨B0, B, ρ, ts, ok, q.go_bind.go_mono fun x kx v s H1 ne es ok1 => by
    obtain ⟨ds, ex, ky⟩ := asL_go kx.go_bind
    subst ex
    obtain ⟨H0, n, sl, t⟩ := id ok1
    obtain ⟨a, xs, ea, tg, lz, da⟩ := (show SlOk X.K B H0 H1 v s from t (v, s) (by simp)).lst n.b es
    subst ea
    refine ⟨.inl ⟨rfl, xs, SqL.of tg⟩, one_tA ok1 (ky.go_bind.go_mono fun d kd w H2 ok2 => ?_)⟩
    obtain ⟨H0', n', sl', t'⟩ := id ok2
    have hv := (show SlOk X.K B H0' H2 (.ref a) s from t' (.ref a, s) (by simp))
    have hw := (show SlOk X.K B H0' H2 w (.val d) from t' (w, .val d) (by simp))
    unfold cntD at kd
    split at kd
    · rename_i c
      refine ⟨a, w, d, ds, rfl, rfl, ?_, hw.dp n'.b (by simp) (okD_plain c.2), c.1, okD_plain c.2, okD_depth c.2, kd.ok _ _ (mk_val n' sl' (fun p hp => t' p (List.mem_cons_of_mem _ (List.mem_cons_of_mem _ hp))) (.int _))⟩
      have := hv.dp n'.b ne (by rw [es]; simpa [PyData.plain] using c.1)
      rw [es] at this
      exact this
    · exact kd.bad⟩
theorem d_idxT (hr : Room k X.A) (ho : PE X o (tSh X.K mg E f1)) (he : PE X e (tD X.K mg E f2)) (hbase : attributeBase o "index" X.env (eval o X.env) = eval o X.env := by rfl)
    (hfew : ((backTo cpos (starEach [e] X.env)).all (fun x => !x.1) && (backToKw cpos (keywordEach [] X.env)).all (fun x => x.1.isSome) && decide ([e].length + ([] : List Keyword).length + (if ([] : List Keyword).isEmpty then 0 else 1) < 30)) = true := by rfl)
    (hline : (apos.endLine == cpos.line) = true := by rfl) (hs : starEach [e] X.env = (false, eval e X.env) :: starEach [] X.env := by rfl) (hplain : (backTo cpos (starEach [] X.env)).any (·.1) = false := by rfl) :
    PE X (.Call (.Attribute o "index" apos) [e] [] cpos) (tD X.K mg E (eIdxT f1 f2)) :=
  pe_weak (pe_bmT PySem.F.slot_tuple_index PySem.F.type_tuple_index (mt_idxT (by have := hr.un; omega)) ho (a_cons he a_nil hs) hbase hfew hline hs hplain) fun σ H Q ⟨B0, B, ρ, ts, ok, q⟩ => ⟨B0, B, ρ, ts, ok, q.go_bind.go_mono fun x kx v s H1 ne es ok1 => by
    obtain ⟨ds, ex, ky⟩ := asT_go kx.go_bind
    subst ex
    obtain ⟨H0, n, sl, t⟩ := id ok1
    obtain ⟨a, xs, ea, tg, lz, da⟩ := (show SlOk X.K B H0 H1 v s from t (v, s) (by simp)).tup n.b es
    refine ⟨⟨a, xs, ea, tg⟩, one_tA ok1 (ky.go_bind.go_mono fun d kd w H2 ok2 => ?_)⟩
    obtain ⟨H0', n', sl', t'⟩ := id ok2
    have hv := (show SlOk X.K B H0' H2 v s from t' (v, s) (by simp))
    have hw := (show SlOk X.K B H0' H2 w (.val d) from t' (w, .val d) (by simp))
    unfold idxD at kd
    split at kd
    · rename_i c
      subst ea
      cases hj : PySem.SeqAt.dataPlace ds d with
      | none => rw [hj] at kd; exact kd.bad
      | some j =>
        rw [hj] at kd
        refine ⟨a, w, d, ds, j, rfl, rfl, ?_, hw.dp n'.b (by simp) (okD_plain c.2), c.1, okD_plain c.2, okD_depth c.2, hj, kd.ok _ _ (mk_val n' sl' (fun p hp => t' p (List.mem_cons_of_mem _ (List.mem_cons_of_mem _ hp))) (.int _))⟩
        have := hv.dp n'.b ne (by rw [es]; simpa [PyData.plain] using c.1)
        rw [es] at this
        exact this
    · exact kd.bad⟩
/-- a list of one's own made of another one or of a tuple -/
def eFL (f : Env → Res (List PyData)) : Env → Res (List PyData) := fun ρ => (f ρ).bind fun ds => match ds with
  | [.list xs] => .ok xs
  | [.tuple xs] => .ok xs
  | _ => .bad
theorem fList (T : Blt X.mg) (hg : Gl X "list") {f : Env → Res (List PyData)} (ha : PA X [e] (tAS X.K mg E f)) (he : starEach [e] X.env = (false, eval e X.env) :: starEach [] X.env := by rfl) (hpl : (backTo pos (starEach [] X.env)).any (·.1) = false := by rfl) :
    PE X (.Call (.Name "list" p) [e] [] pos) (tF X.K mg E (eFL f)) :=
  pe_weak (pe_callTy call_list_of hg T.list boot_list ha (by decide) (by decide) he hpl) fun σ H Q ⟨B0, B, ρ, ts, ok, q⟩ => ⟨B0, B, ρ, ts, ok, q.go_bind.go_mono fun ds kd vs ss H' hl nn em ok' => by
    have one : ∃ d, ds = [d] := by
      match ds, kd with
      | [d], _ => exact ⟨d, rfl⟩
      | [], kd => exact kd.bad
      | a :: b :: c, kd => exact (show (Res.bad : Res (List PyData)).go _ _ from by cases a <;> exact kd).bad
    obtain ⟨d, rfl⟩ := one
    have lss : ss.length = 1 := by
      have := congrArg List.length em
      simpa using this
    match ss, lss, vs, hl with
    | [sl], _, [v], _ =>
      have ed : dat sl = d := by simpa using em
      have ok2 : SOk X.K B0 B ρ ((v, sl) :: ts) σ H' := ok'
      obtain ⟨H0, n, s, t⟩ := id ok2
      have hv := (show SlOk X.K B H0 H' v sl from t (v, sl) (by simp))
      have fin : ∀ xs us w, (∀ H0', Nw B0 B H0' H' → Slots X.K B H0' H' σ ρ → (∀ p ∈ (v, sl) :: ts, SlOk X.K B H0' H' p.1 p.2) → DqAll X.K H0' us xs) → us.length ≤ sizeLine → H' w = none → (∀ a H'', SOk X.K B0 B ρ ((.ref a, .own xs) :: ts) σ H'' → Apart ρ ts σ a → Q (.ref a) H'') → Q (.ref w) (upd H' w (.lst us)) := fun xs us w hd lz hw kq => by
        obtain ⟨h1, h2⟩ := ok2.newOwn (vs := us) hd lz hw
        refine kq w _ (h1.sub fun p hp => ?_) ⟨h2.1, fun p hp => h2.2 p (List.mem_cons_of_mem _ hp)⟩
        rcases List.mem_cons.mp hp with z | z
        · rw [z]; simp
        · exact List.mem_cons_of_mem _ (List.mem_cons_of_mem _ z)
      cases d with
      | list xs =>
        obtain ⟨a, us, ea, ha', la, da⟩ := hv.lst n.b ed
        refine ⟨a, us, by rw [ea], .inl (SqL.of ha'), fun w hw => fin xs us w (fun H0' n' s' t'' => ?_) la hw kd.ok⟩
        obtain ⟨a2, us2, ea2, ha2, _, da2⟩ := (show SlOk X.K B H0' H' v sl from t'' (v, sl) (by simp)).lst n'.b ed
        rw [ea] at ea2
        cases ea2
        rw [ha'] at ha2
        cases ha2
        exact da2
      | tuple xs =>
        obtain ⟨a, us, ea, ha', la, da⟩ := hv.tup n.b ed
        refine ⟨a, us, by rw [ea], .inr ha'.sq, fun w hw => fin xs us w (fun H0' n' s' t'' => ?_) la hw kd.ok⟩
        obtain ⟨a2, us2, ea2, ha2, _, da2⟩ := (show SlOk X.K B H0' H' v sl from t'' (v, sl) (by simp)).tup n'.b ed
        rw [ea] at ea2
        cases ea2
        obtain ⟨o1, _, q1⟩ := ha'
        obtain ⟨o2, _, q2⟩ := ha2
        rw [q1] at q2
        cases q2
        exact da2
      | _ => exact kd.bad⟩
/-- xs.remove(e), xs a list of one's own -/
def remD (ds : List PyData) (d : PyData) : Option (List PyData) := if PyData.plainAll ds = true ∧ okD d = true then (PySem.SeqAt.dataPlace ds d).map fun j => ds.eraseIdx j else none
def sRem (i : Nat) (f : Env → Res PyData) : Env → RS := fun ρ => match ρ[i]? with
  | some (.own ds) => ofR (f ρ) fun d => match remD ds d with
    | some es => .nx (ρ.set i (.own es))
    | none => .bad
  | _ => .bad
theorem s_rem {i : Nat} {x : Str} (hr : Room k X.A) (hN : X.N[i]? = some x) (hv : Vis X.env.scope x) (he : PE X e (tD X.K mg E f)) (hd : (x == ("__debug__" : Str)) = false := by decide) (hcd : (x == ("__classdict__" : Str)) = false := by decide)
    (hsw : swapsWith (.Call (.Attribute (.Name x p) "remove" apos) [e] [] cpos) none pos.line X.env = pure false := by rfl)
    (hbase : attributeBase (.Name x p) "remove" X.env (eval (.Name x p) X.env) = eval (.Name x p) X.env := by rfl)
    (hfew : ((backTo cpos (starEach [e] X.env)).all (fun x => !x.1) && (backToKw cpos (keywordEach [] X.env)).all (fun x => x.1.isSome) && decide ([e].length + ([] : List Keyword).length + (if ([] : List Keyword).isEmpty then 0 else 1) < 30)) = true := by rfl)
    (hline : (apos.endLine == cpos.line) = true := by rfl) (hs : starEach [e] X.env = (false, eval e X.env) :: starEach [] X.env := by rfl) (hplain : (backTo cpos (starEach [] X.env)).any (·.1) = false := by rfl) :
    PS X (.Expr (.Call (.Attribute (.Name x p) "remove" apos) [e] [] cpos) pos) (tS X.K mg E (sRem i f)) :=
  ps_weak (ps_expr (pe_bm PySem.F.plainAttrs_list PySem.F.slot_list_remove PySem.F.type_list_remove (mt_rem (by have := hr.un; omega)) (pe_var hN hv hd hcd) (a_cons he a_nil hs) hbase hfew hline hs hplain) hsw) fun D σ H ⟨B0, B, ρ, ts, ok, av, q⟩ => by
    have q := q.out
    unfold sRem at q
    split at q
    · rename_i ds hρ
      have q : (ofR (f ρ) fun d => match remD ds d with
        | some es => RS.nx (ρ.set i (.own es))
        | none => .bad).go X.K mg E B0 B ts D := ⟨q⟩
      obtain ⟨a, ha, key⟩ := own_at ok hρ
      obtain ⟨xs, hp, _⟩ := key ts H ok
      refine ⟨.ref a, ha, .inl ⟨rfl, xs, SqL.of hp⟩, one_tA ok ((ofR_go q).go_mono fun d kd w H' ok' => ?_)⟩
      have kd := kd.out
      unfold remD at kd
      by_cases c : PyData.plainAll ds = true ∧ okD d = true
      · rw [if_pos c] at kd
        cases hj : PySem.SeqAt.dataPlace ds d with
        | none => rw [hj] at kd; exact False.elim kd
        | some j =>
          rw [hj] at kd
          obtain ⟨xs', hp', hl', hlen, all⟩ := key _ H' ok'
          obtain ⟨H0, n, s, t⟩ := id ok'
          have hw := (show SlOk X.K B H0 H' w (.val d) from t (w, .val d) (by simp))
          refine ⟨a, w, d, xs', ds, j, rfl, rfl, hp', DqAll.dp c.1 ((all H0 s).mono n.b), hw.dp n.b (by simp) (okD_plain c.2), c.1, okD_plain c.2, okD_depth c.2, hj, kd _ _ ?_⟩
          have av2 : AllVal ((w, Sl.val d) :: ts) := fun p hp => by
            rcases List.mem_cons.mp hp with z | z
            · subst z; exact ⟨d, rfl⟩
            · exact av p z
          exact (ok'.write av2 hρ ha (fun H0 n s t => (all H0 s).eraseIdx j) (Nat.le_trans (List.length_eraseIdx_le xs' j) hl')).drop
      · rw [if_neg c] at kd
        exact False.elim kd
    · exact False.elim q
end
end DL

namespace DL
open PySem PySem.Spec PyProof.Rows L2

/-! ### t[::-1] -/
section
variable {prog : Program} {w : World} {A : Around} {E : Value → Shared → Prop} {s : Shared}
theorem rev_applied {sl : Addr} {vl vu vs : Value} {n : Nat} {Q : Int × Int × Nat → Shared → Prop} (hs : s.heap.IsSliceOf sl vl vu vs) (pl : IsPart vl none) (pu : IsPart vu none) (ps : IsPart vs (some (-1)))
    (h : Q ((n : Int) - 1, -1, n) s) : wpAny (model prog w) A (Builtin.Slice.sliceApplied (.ref sl) (pure (n : Int))) Q E s := by
  obtain ⟨os, ho, hc, hd⟩ := id hs
  unfold Builtin.Slice.sliceApplied Builtin.Slice.sliceFields
  refine wpAny_bind (wpAny_bind (wpAny_field ho hd (x := vl) rfl (wpAny_bind (wpAny_field ho hd (x := vu) rfl (wpAny_bind (wpAny_field ho hd (x := vs) rfl (wpAny_pure (wpAny_bind (HT.slicePart_ ps ?_)))))))))
  show wpAny _ _ (if ((-1 : Int) == 0) = true then _ else _) _ _ s
  rw [if_neg (by decide)]
  refine wpAny_bind (HT.slicePart_ pl (wpAny_bind (HT.slicePart_ pu (wpAny_bind (wpAny_pure ?_)))))
  have e : Builtin.Slice.slicePlaces ((n : Int) - 1) (-1) (-1) = n := by
    unfold Builtin.Slice.slicePlaces
    rw [if_neg (by decide)]
    by_cases c : (n : Int) - 1 > -1
    · rw [if_pos c]
      have e2 : (-(-1) : Int) = 1 := by decide
      rw [e2, Int.ediv_one]
      omega
    · rw [if_neg c]
      omega
  show wpAny _ _ (pure ((n : Int) - 1, (-1 : Int), Builtin.Slice.slicePlaces ((n : Int) - 1) (-1) (-1))) _ _ s
  rw [e]
  exact wpAny_pure h
theorem rev_pick (xs : Array Value) : ((List.range xs.size).filterMap fun (m : Nat) => xs[((xs.size : Int) - 1 + (m : Int) * (-1)).toNat]?).toArray = xs.toList.reverse.toArray := by
  have e : (List.range xs.size).filterMap (fun (m : Nat) => xs[((xs.size : Int) - 1 + (m : Int) * (-1)).toNat]?) = ((List.range xs.size).map fun k => xs.size - 1 - k).filterMap (xs[·]?) := by
    rw [List.filterMap_map]
    have q : (fun (m : Nat) => xs[((xs.size : Int) - 1 + (m : Int) * (-1)).toNat]?) = fun m => xs[xs.size - 1 - m]? := by
      funext m
      rw [show ((xs.size : Int) - 1 + (m : Int) * (-1)).toNat = xs.size - 1 - m by omega]
    rw [q]
    rfl
  rw [e, PySem.W.krv_range, List.filterMap_reverse, PySem.W.krv_all]
theorem getItem_tuple_rev {t sl : Addr} {items : Array Value} {vl vu vs : Value} {Q : Value → Shared → Prop} (ht : IsTup s.heap t items) (hs : s.heap.IsSliceOf sl vl vu vs) (pl : IsPart vl none) (pu : IsPart vu none) (ps : IsPart vs (some (-1)))
    (h : Q (.ref s.heap.objs.size) { s with heap := s.heap.push { cls := .type "tuple", data := .seq items.toList.reverse.toArray } }) (hz : items.size ≤ sizeLine) : wpAny (model prog w) A (getItem (.ref t) (.ref sl)) Q E s := by
  have fits : sizeOk (.seq items.toList.reverse.toArray) := by
    show items.toList.reverse.toArray.size ≤ sizeLine
    rw [List.size_toArray, List.length_reverse, Array.length_toList]
    exact hz
  obtain ⟨os, ho, hc, _⟩ := id hs
  have ty : s.TypeIs (.ref sl) "slice" := ⟨os, ho, hc⟩
  unfold getItem
  try with_reducible refine wpAny_holding ?_
  first | refine wpAny_bind (wpAny_pure ?_) | skip
  refine wpAny_bind (wpAny_sequenceKey ht.typeIs (by decide) (wpAny_bind (wpAny_callSpecial?_slot (name := Str.ofString "__getitem__") ht.typeIs PyProof.Rows.slot_tuple_getitem (wpAny_call_entry PyProof.Rows.slot_tuple_getitem ht.typeIs entry_tuple_getitem ?_ (args_tuple_getitem _ _)))))
  show wpAny (model prog w) A.in1 (Builtin.Tuple.tupleItemsOf (Value.ref t) >>= _) _ _ s
  refine wpAny_bind (tupleItemsOf_ ht (wpAny_bind (wpAny_typeOf ty ?_)))
  rw [if_pos (by decide)]
  refine wpAny_bind (rev_applied hs pl pu ps ?_)
  have no : ¬ ((((items.size : Int) - 1) == 0 && (-1 : Int) == 1 && items.size == items.size) = true) := by simp
  show wpAny _ _ (if (((items.size : Int) - 1) == 0 && (-1 : Int) == 1 && items.size == items.size) = true then _ else _) _ _ s
  rw [if_neg no, rev_pick]
  first
    | exact wpAny_bind (m := Builtin.Tuple.tupleExact _) (wpAny_newObj_type (wpAny_pure ⟨_, rfl, wpAny_pure h⟩) fits)
    | exact wpAny_bind (m := Builtin.Tuple.tupleExact _) (wpAny_newObj_type (wpAny_bind (wpAny_pure (wpAny_pure ⟨_, rfl, wpAny_pure h⟩))) fits)
    | exact wpAny_bind (wpAny_bind (m := Builtin.Tuple.tupleExact _) (wpAny_newObj_type (wpAny_pure (wpAny_pure ⟨_, rfl, wpAny_pure h⟩)) fits))
    | exact wpAny_bind (wpAny_bind (m := Builtin.Tuple.tupleExact _) (wpAny_newObj_type (wpAny_pure ⟨_, rfl, wpAny_pure h⟩) fits))
end
section
variable {X : Cx} {mg : Str → Option Value} {E : XK} {e : Expr} {f : Env → Res PyData} {te : TE}
def tRevG (K : PySem.W.Frag) (te : TE) : TE := fun σ H Q => te σ H fun x H1 => ∃ a xs, x = .ref a ∧ SqT K H1 a xs ∧ ∀ (p : Addr) (o : Obj), o.dict = none → H1 p = none → Q (.ref p) (upd H1 p (FT o xs.reverse))
theorem pe_revG {k : Nat} {p1 p2 p3 pos : Pos} (he : PE X e te) : PE X (.Subscript e (.Slice none none (some (.UnaryOp .USub (.Constant (.int 1) k p1) p2)) p3) pos) (tRevG X.K te) := ⟨fun pins s σ H Q I h => by
  refine Subscript_ (thn (he.run pins s σ H _ I h) fun v s1 ⟨x, H1, I1, r1, ⟨a, xs, ex, hx, q⟩⟩ => ?_)
  subst ex
  cases r1
  have st : PO X (some (.UnaryOp .USub (.Constant (.int 1) k p1) p2)) (tPart (tUn (rU fun i => .int (-i)) (tC (.int 1)))) := po_some (pe_un un_neg pe_int)
  refine wpAny_Slice (thn (po_none.run pins s1 σ H1 (fun o K2 => o = none ∧ K2 = H1) I1 ⟨rfl, rfl⟩) fun vl s2 ⟨l, H2, I2, pl, el, w2⟩ => ?_)
  subst el w2
  refine thn (po_none.run pins s2 σ H2 (fun o K3 => o = none ∧ K3 = H2) I2 ⟨rfl, rfl⟩) fun vu s3 ⟨u, H3, I3, pu, eu, w3⟩ => ?_
  subst eu w3
  refine thn (st.run pins s3 σ H3 (fun o K4 => o = some (-1) ∧ K4 = H3) I3 ⟨1, rfl, -1, rfl, rfl, rfl⟩) fun vs s4 ⟨o, H4, I4, ps, eo, w4⟩ => ?_
  subst eo w4
  have I5 : L2.Inv X pins σ H4 { s4 with heap := s4.heap.push { cls := .type "slice", data := .fields #[vl, vu, vs] } } := I4.kept (t' := s4.toks) fun b ob z => Heap.get?_push_of_some _ z
  obtain ⟨us, ru, pt, lz⟩ := I5.tuple hx
  show wpAny (model X.prog X.w) X.A (subscriptTail e (.Slice none none (some (.UnaryOp .USub (.Constant (.int 1) k p1) p2)) p3) (.ref a) (.ref s4.heap.objs.size)) (EP X pins σ Q) X.xe { s4 with heap := s4.heap.push { cls := .type "slice", data := .fields #[vl, vu, vs] } }
  refine tail_any (ops := [.ref a, .ref s4.heap.objs.size]) pt.typeIs (PyProof.Rows.slot_tuple_getitem.lookup) ?_ (by with_unfolding_all rfl)
  refine getItem_tuple_rev pt (Heap.IsSliceOf.new _ vl vu vs) pl pu ps ?_ (by rw [List.size_toArray, ← ru.length]; exact lz)
  obtain ⟨o, ho, I6, fr⟩ := lay_tup I5 ru.reverse (by rw [List.length_reverse]; exact lz) s4.toks
  exact ⟨.ref _, _, I6, rfl, q _ o ho fr⟩⟩
def revD : PyData → Res PyData
  | .tuple xs => .ok (.tuple xs.reverse)
  | _ => .bad
def eRev (f : Env → Res PyData) : Env → Res PyData := fun ρ => (f ρ).bind revD
theorem d_rev {k : Nat} {p1 p2 p3 pos : Pos} (he : PE X e (tSh X.K mg E f)) : PE X (.Subscript e (.Slice none none (some (.UnaryOp .USub (.Constant (.int 1) k p1) p2)) p3) pos) (tD X.K mg E (eRev f)) :=
  pe_weak (pe_revG he) fun σ H Q ⟨B0, B, ρ, ts, ok, q⟩ => ⟨B0, B, ρ, ts, ok, q.go_bind.go_mono fun d kd v s H1 ne ed ok1 => by
    obtain ⟨H0, n, sl, t⟩ := id ok1
    have hv := (show SlOk X.K B H0 H1 v s from t (v, s) (by simp))
    cases d with
    | tuple xs =>
      obtain ⟨a, us, ea, ha, la, da⟩ := hv.tup n.b ed
      exact ⟨a, us, ea, ha.sq, fun p o od hp => kd.ok _ _ (mk_tup n sl (fun p hp => t p (List.mem_cons_of_mem _ hp)) da.reverse (by rw [List.length_reverse]; exact la) od hp)⟩
    | _ => exact kd.bad⟩
end
end DL

namespace DL
open PySem L2

section
variable {X : Cx} {mg : Str → Option Value} {E : XK} {pos p : Pos} {e e1 e2 : Expr} {f : Env → Res PyData}
theorem SOk.grown {K : PySem.W.Frag} {B0 B H : Hp} {ρ : Env} {ts : List (V × Sl)} {σ : St} (h : SOk K B0 B ρ ts σ H) {q : Addr} {o : HO} (hq : H q = none) : SOk K B0 B ρ ts σ (upd H q o) := by
  obtain ⟨H0, n, s, t⟩ := h
  have al : Nw H0 H H0 (upd H q o) := (Nw.refl n.b).fresh hq
  exact ⟨H0, n.trans al, s.grow al, fun p hp => (t p hp).grow al⟩
/-- a, b = x, y where x and y are new lists -/
def sOwn2 (i j : Nat) (f1 f2 : Env → Res (List PyData)) : Env → RS := fun ρ => ofR (f1 ρ) fun ds => ofR (f2 ρ) fun es => .nx ((ρ.set i (.own ds)).set j (.own es))
theorem s_own2 {i j : Nat} {x y : Str} {px py pt : Pos} {kt k2 pt2} {f1 f2 : Env → Res (List PyData)} (hc : X.calm = true) (hij : i ≠ j) (g1 : PG X (.Name x px) (gName i)) (g2 : PG X (.Name y py) (gName j)) (h1 : PE X e1 (tF X.K mg E f1)) (h2 : PE X e2 (tF X.K mg E f2))
    (hs : swapsWithSole [.Tuple [.Name x px, .Name y py] kt pt] (.Tuple [e1, e2] k2 pt2) pos.line X.env = pure false := by rfl) (hw : swappedStores [.Tuple [.Name x px, .Name y py] kt pt] (.Tuple [e1, e2] k2 pt2) X.env = pure none := by rfl)
    (ha : (assignEach [.Tuple [.Name x px, .Name y py] kt pt] X.env).map (·.2) = [assign (.Tuple [.Name x px, .Name y py] kt pt) X.env] := by rfl)
    (s1 : starEach [e1, e2] X.env = (false, eval e1 X.env) :: starEach [e2] X.env := by rfl) (s2 : starEach [e2] X.env = (false, eval e2 X.env) :: starEach [] X.env := by rfl) :
    PS X (.Assign [.Tuple [.Name x px, .Name y py] kt pt] (.Tuple [e1, e2] k2 pt2) pos) (tS X.K mg E (sOwn2 i j f1 f2)) :=
  ps_weak (ps_asg (pe_tup (pa_cons h1 (pa_cons h2 pa_nil s2) s1)) (pg_tup (n := 2) hc (pgs_cons g1 (pgs_cons g2 pgs_nil))) hs hw ha) fun D σ H ⟨B0, B, ρ, ts, ok, av, q⟩ =>
    ⟨B0, B, ρ, ts, ok, (ofR_go q).go_mono fun ds kd a H1 ok1 ap1 => ⟨B0, B, ρ, (.ref a, .own ds) :: ts, ok1, by
      have kd := ofR_go kd
      refine kd.go_mono fun es ke b H2 ok2 ap2 => ?_
      have ne : a ≠ b := fun z => ap2.2 (.ref a, .own ds) (by simp) ds rfl (by rw [z])
      refine ⟨by show 2 ≤ sizeLine; decide, fun p hp => ?_⟩
      refine ⟨p, [.ref a, .ref b], rfl, SqT.of upd_same, rfl, .ref a, [.ref b], rfl, .ref b, [], rfl, rfl, ?_⟩
      have o1 : SOk X.K B0 B (ρ.set j (.own es)) ((.ref a, .own ds) :: ts) (σ.set j (some (.ref b))) (upd H2 p (.tup [.ref a, .ref b])) := (ok2.grown hp).setOwn ap2 j
      have ap3 : Apart (ρ.set j (.own es)) ts (σ.set j (some (.ref b))) a := by
        refine ⟨fun m zs em => ?_, ap1.2⟩
        by_cases mj : j = m
        · subst mj
          rw [List.getElem?_set, if_pos rfl]
          split
          · intro z
            exact ne (by cases z; rfl)
          · intro z; cases z
        · rw [List.getElem?_set, if_neg mj] at em ⊢
          exact ap1.1 m zs em
      have o2 := o1.setOwn ap3 i
      rw [List.set_comm _ _ (Ne.symm hij), List.set_comm _ _ (Ne.symm hij)] at o2
      exact ke.out _ _ o2⟩⟩
/-- a.append(b.pop(e)), two lists of one's own -/
def popD (ds es : List PyData) : PyData → Option (List PyData × List PyData)
  | .int k => if 0 ≤ k ∧ k < es.length then (match es[k.toNat]? with
    | some d => some (ds ++ [d], es.eraseIdx k.toNat)
    | none => none) else none
  | _ => none
def sAppPop (i j : Nat) (f : Env → Res PyData) : Env → RS := fun ρ => match ρ[i]?, ρ[j]? with
  | some (.own ds), some (.own es) => ofR (f ρ) fun d => if ds.length < sizeLine then (match popD ds es d with
    | some p => .nx ((ρ.set j (.own p.2)).set i (.own p.1))
    | none => .bad) else .bad
  | _, _ => .bad
theorem s_appPop {i j : Nat} {x y : Str} {px py ap1 ap2 cp1 cp2 : Pos} (hij : i ≠ j) (hN : X.N[i]? = some x) (hv : Vis X.env.scope x) (hN2 : X.N[j]? = some y) (hv2 : Vis X.env.scope y) (he : PE X e (tD X.K mg E f))
    (hd : (x == ("__debug__" : Str)) = false := by decide) (hcd : (x == ("__classdict__" : Str)) = false := by decide) (hd2 : (y == ("__debug__" : Str)) = false := by decide) (hcd2 : (y == ("__classdict__" : Str)) = false := by decide)
    (hsw : swapsWith (.Call (.Attribute (.Name x px) "append" ap1) [.Call (.Attribute (.Name y py) "pop" ap2) [e] [] cp2] [] cp1) none pos.line X.env = pure false := by rfl)
    (hb1 : attributeBase (.Name x px) "append" X.env (eval (.Name x px) X.env) = eval (.Name x px) X.env := by rfl)
    (hb2 : attributeBase (.Name y py) "pop" X.env (eval (.Name y py) X.env) = eval (.Name y py) X.env := by rfl)
    (hf1 : ((backTo cp1 (starEach [.Call (.Attribute (.Name y py) "pop" ap2) [e] [] cp2] X.env)).all (fun x => !x.1) && (backToKw cp1 (keywordEach [] X.env)).all (fun x => x.1.isSome) && decide (([.Call (.Attribute (.Name y py) "pop" ap2) [e] [] cp2] : List Expr).length + ([] : List Keyword).length + (if ([] : List Keyword).isEmpty then 0 else 1) < 30)) = true := by rfl)
    (hf2 : ((backTo cp2 (starEach [e] X.env)).all (fun x => !x.1) && (backToKw cp2 (keywordEach [] X.env)).all (fun x => x.1.isSome) && decide ([e].length + ([] : List Keyword).length + (if ([] : List Keyword).isEmpty then 0 else 1) < 30)) = true := by rfl)
    (hl1 : (ap1.endLine == cp1.line) = true := by rfl) (hl2 : (ap2.endLine == cp2.line) = true := by rfl)
    (hs1 : starEach [.Call (.Attribute (.Name y py) "pop" ap2) [e] [] cp2] X.env = (false, eval (.Call (.Attribute (.Name y py) "pop" ap2) [e] [] cp2) X.env) :: starEach [] X.env := by rfl) (hs2 : starEach [e] X.env = (false, eval e X.env) :: starEach [] X.env := by rfl)
    (hp1 : (backTo cp1 (starEach [] X.env)).any (·.1) = false := by rfl) (hp2 : (backTo cp2 (starEach [] X.env)).any (·.1) = false := by rfl) :
    PS X (.Expr (.Call (.Attribute (.Name x px) "append" ap1) [.Call (.Attribute (.Name y py) "pop" ap2) [e] [] cp2] [] cp1) pos) (tS X.K mg E (sAppPop i j f)) :=
  ps_weak (ps_expr (pe_bm PySem.F.plainAttrs_list PySem.F.slot_list_append PySem.F.type_list_append mt_append (pe_var hN hv hd hcd)
      (pa_cons (pe_bm PySem.F.plainAttrs_list PySem.F.slot_list_pop PySem.F.type_list_pop mt_popAt (pe_var hN2 hv2 hd2 hcd2) (a_cons he a_nil hs2) hb2 hf2 hl2 hs2 hp2) pa_nil hs1) hb1 hf1 hl1 hs1 hp1) hsw) fun D σ H ⟨B0, B, ρ, ts, ok, av, q⟩ => by
    have q := q.out
    unfold sAppPop at q
    split at q
    · rename_i ds es hi hj
      have q : (ofR (f ρ) fun d => if ds.length < sizeLine then (match popD ds es d with
        | some p => RS.nx ((ρ.set j (.own p.2)).set i (.own p.1))
        | none => .bad) else .bad).go X.K mg E B0 B ts D := ⟨q⟩
      obtain ⟨a, ha, keya⟩ := own_at ok hi
      obtain ⟨b, hb, keyb⟩ := own_at ok hj
      obtain ⟨xs, hpa, _⟩ := keya ts H ok
      obtain ⟨ys, hpb, _⟩ := keyb ts H ok
      refine ⟨.ref a, ha, .inl ⟨rfl, xs, SqL.of hpa⟩, .ref b, hb, .inl ⟨rfl, ys, SqL.of hpb⟩, one_tA ok ((ofR_go q).go_mono fun d kd w H' ok' => ?_)⟩
      have kd := kd.out
      split at kd
      · rename_i hlt
        cases d with
        | int k =>
          unfold popD at kd
          by_cases c : 0 ≤ k ∧ k < es.length
          · simp only [if_pos c] at kd
            obtain ⟨xs', hpa', hla, hlena, _⟩ := keya _ H' ok'
            obtain ⟨ys', hpb', hlb, hlenb, allb⟩ := keyb _ H' ok'
            obtain ⟨H0, n, s, t⟩ := id ok'
            have hw := (show SlOk X.K B H0 H' w (.val (.int k)) from t (w, .val (.int k)) (by simp)).int rfl
            have kl : k.toNat < es.length := by omega
            obtain ⟨d, hd'⟩ : ∃ d, es[k.toNat]? = some d := ⟨_, List.getElem?_eq_getElem kl⟩
            obtain ⟨v, hv', dv⟩ := (allb H0 s).get hd'
            rw [hd'] at kd
            have hz := sizeLine_eq
            have nab : a ≠ b := fun z => by
              subst z
              exact s.dis i j ds es a hij hi hj ha hb
            refine ⟨b, ys', k, k.toNat, v, rfl, by rw [hw], hpb', by omega, by omega, ?_, hv', ?_⟩
            · unfold seqIndex?
              have c1 : ¬ k < 0 := by omega
              have c2 : k.toNat < ys'.length := by omega
              simp [c1, c2]
              omega
            · have ok1 : SOk X.K B0 B ρ ((v, .val d) :: ts) σ H' := ⟨H0, n, s, fun p hp => by
                rcases List.mem_cons.mp hp with z | z
                · subst z; exact dv
                · exact t p (List.mem_cons_of_mem _ z)⟩
              have av2 : AllVal ((v, Sl.val d) :: ts) := fun p hp => by
                rcases List.mem_cons.mp hp with z | z
                · subst z; exact ⟨d, rfl⟩
                · exact av p z
              have ok2 := ok1.write av2 hj hb (es := es.eraseIdx k.toNat) (ys := ys'.eraseIdx k.toNat) (fun H0 n s t => (allb H0 s).eraseIdx _) (Nat.le_trans (List.length_eraseIdx_le ys' _) hlb)
              have hi2 : (ρ.set j (.own (es.eraseIdx k.toNat)))[i]? = some (.own ds) := by rw [List.getElem?_set, if_neg (Ne.symm hij)]; exact hi
              obtain ⟨a2, ha2, keya2⟩ := own_at ok2 hi2
              rw [ha] at ha2
              cases ha2
              obtain ⟨xs2, hpa2, hla2, hlena2, alla2⟩ := keya2 _ _ ok2
              refine ⟨a, xs2, v, rfl, rfl, hpa2, by rw [hlena2]; exact hlt, kd _ _ ?_⟩
              exact (ok2.write av2 hi2 ha (fun H0 n s t => (alla2 H0 s).append (.cons (t (v, .val d) (by simp)) .nil)) (by rw [List.length_append, List.length_singleton, hlena2]; omega)).drop
          · simp only [if_neg c] at kd
            exact False.elim kd
        | _ => exact False.elim kd
      · exact False.elim kd
    · exact False.elim q
end
end DL

namespace DL
open PySem L2

/-! ### a list of lists of one's own: rows[i].append(v) -/
theorem go_of {α : Type} {r : Res α} {x : α} {P : α → Prop} {R : Str → Prop} (h : r = .ok x) (k : P x) : r.go P R := by
  rw [h]
  exact ⟨k⟩
inductive InAll (K : PySem.W.Frag) (B H0 H : Hp) : List Addr → List (List PyData) → Prop
  | nil : InAll K B H0 H [] []
  | cons {b : Addr} {bs : List Addr} {xs : List V} {ds : List PyData} {dss : List (List PyData)} : B b = none → H0 b = none → H b = some (.lst xs) → xs.length ≤ sizeLine → DqAll K H0 xs ds → InAll K B H0 H bs dss → InAll K B H0 H (b :: bs) (ds :: dss)
structure RC (K : PySem.W.Frag) (B H0 H : Hp) (a : Addr) (bs : List Addr) (dss : List (List PyData)) : Prop where
  ba : B a = none
  ha : H0 a = none
  is : H a = some (.lst (bs.map V.ref))
  few : bs.length ≤ sizeLine
  nd : (a :: bs).Nodup
  inn : InAll K B H0 H bs dss
def NoOwn (ρ : Env) : Prop := ∀ (j : Nat) (ds : List PyData), ρ[j]? ≠ some (.own ds)
section
variable {K : PySem.W.Frag} {mg : Str → Option Value} {E : XK} {B0 B B' H0 H H0' H' : Hp} {ρ : Env} {ts : List (V × Sl)} {σ : St} {i : Nat} {a : Addr} {bs : List Addr} {dss : List (List PyData)}
theorem new_none (n : Nw H0 H H0' H') {c : Addr} {o : HO} (h0 : H0 c = none) (h : H c = some o) : H0' c = none := by
  cases q : H0' c with
  | none => rfl
  | some u =>
    rcases n.d c u q with z | z
    · rw [h0] at z; cases z
    · rw [h] at z; cases z
theorem InAll.grow (n : Nw H0 H H0' H') : ∀ {bs : List Addr} {dss : List (List PyData)}, InAll K B H0 H bs dss → InAll K B H0' H' bs dss
  | _, _, .nil => .nil
  | _, _, .cons b h0 h l d t => .cons b (new_none n h0 h) (n.c _ _ h) l (d.mono n.a) (InAll.grow n t)
theorem RC.grow (n : Nw H0 H H0' H') (r : RC K B H0 H a bs dss) : RC K B H0' H' a bs dss := ⟨r.ba, new_none n r.ha r.is, n.c _ _ r.is, r.few, r.nd, r.inn.grow n⟩
theorem InAll.length : ∀ {bs : List Addr} {dss : List (List PyData)}, InAll K B H0 H bs dss → bs.length = dss.length
  | _, _, .nil => rfl
  | _, _, .cons _ _ _ _ _ t => by rw [List.length_cons, List.length_cons, InAll.length t]
theorem InAll.get : ∀ {bs : List Addr} {dss : List (List PyData)} {k : Nat} {ds : List PyData}, InAll K B H0 H bs dss → dss[k]? = some ds → ∃ b xs, bs[k]? = some b ∧ B b = none ∧ H0 b = none ∧ H b = some (.lst xs) ∧ xs.length ≤ sizeLine ∧ DqAll K H0 xs ds
  | _, _, _, _, .nil, e => by simp at e
  | _, _, 0, _, .cons h1 h2 h3 h4 h5 _, e => by simp at e; subst e; exact ⟨_, _, rfl, h1, h2, h3, h4, h5⟩
  | _, _, k + 1, ds, .cons _ _ _ _ _ t, e => by
    obtain ⟨b, xs, q⟩ := InAll.get (k := k) (ds := ds) t (by simpa using e)
    exact ⟨b, xs, by simpa using q⟩
theorem InAll.keep {c : Addr} {u : HO} : ∀ {bs : List Addr} {dss : List (List PyData)}, InAll K B H0 H bs dss → (∀ z ∈ bs, z ≠ c) → InAll K B H0 (upd H c u) bs dss
  | _, _, .nil, _ => .nil
  | _, _, .cons h1 h2 h3 h4 h5 t, ne => .cons h1 h2 (by rw [upd_ne (ne _ (by simp))]; exact h3) h4 h5 (InAll.keep t fun z hz => ne z (List.mem_cons_of_mem _ hz))
theorem InAll.lift : ∀ {bs : List Addr} {dss : List (List PyData)} {H0 H1 : Hp}, Ex H0 H1 → InAll K B H0 H bs dss → (∀ z ∈ bs, H1 z = H0 z) → InAll K B H1 H bs dss
  | _, _, _, _, _, .nil, _ => .nil
  | _, _, _, _, ex, .cons h1 h2 h3 h4 h5 t, k => .cons h1 ((k _ (by simp)).trans h2) h3 h4 (h5.mono ex) (InAll.lift ex t fun z hz => k z (List.mem_cons_of_mem _ hz))
/-- one of the inner lists is written -/
theorem InAll.write {c : Addr} {ys : List V} {es : List PyData} (lz : ys.length ≤ sizeLine) (dq : DqAll K H0 ys es) : ∀ {bs : List Addr} {dss : List (List PyData)} {k : Nat}, InAll K B H0 H bs dss → bs.Nodup → bs[k]? = some c → InAll K B H0 (upd H c (.lst ys)) bs (dss.set k es)
  | _, _, _, .nil, _, e => by simp at e
  | _, _, 0, .cons h1 h2 h3 h4 h5 t, nd, e => by
    simp at e
    subst e
    rw [List.nodup_cons] at nd
    refine .cons h1 h2 upd_same lz dq ?_
    exact t.keep fun z hz => fun q => nd.1 (q ▸ hz)
  | b :: bs, _ :: dss, k + 1, .cons h1 h2 h3 h4 h5 t, nd, e => by
    have e : bs[k]? = some c := by simpa using e
    rw [List.nodup_cons] at nd
    have ne : b ≠ c := fun z => nd.1 (by rw [z]; exact List.mem_of_getElem? e)
    exact .cons h1 h2 (by rw [upd_ne ne]; exact h3) h4 h5 (InAll.write lz dq t nd.2 e)
/-- the inner lists are frozen -/
theorem InAll.freeze : ∀ {bs : List Addr} {dss : List (List PyData)} {H0 : Hp}, InAll K B H0 H bs dss → bs.Nodup → Nw B0 B H0 H → ∃ H0', Nw B0 B H0' H ∧ Ex H0 H0' ∧ DqAll K H0' (bs.map V.ref) (dss.map PyData.list) ∧ ∀ c, c ∉ bs → H0' c = H0 c
  | _, _, H0, .nil, _, n => ⟨H0, n, Ex.refl _, .nil, fun _ _ => rfl⟩
  | b :: bs, ds :: dss, H0, .cons (xs := xs) h1 h2 h3 h4 h5 t, nd, n => by
    rw [List.nodup_cons] at nd
    have ex : Ex H0 (upd H0 b (.lst xs)) := Ex.new h2
    have t' : InAll K B (upd H0 b (.lst xs)) H bs dss := InAll.lift ex t fun z hz => by
      have ne : z ≠ b := fun q => nd.1 (q ▸ hz)
      exact upd_ne ne
    obtain ⟨H1, n1, e1, d1, k1⟩ := InAll.freeze t' nd.2 (n.freeze h2 h1 h3)
    refine ⟨H1, n1, ex.trans e1, .cons (.lst (e1 _ _ upd_same) h4 (h5.mono (ex.trans e1))) d1, fun c hc => ?_⟩
    rw [List.mem_cons, not_or] at hc
    rw [k1 c hc.2, upd_ne hc.1]
theorem slots_any (no : NoOwn ρ) (s : Slots K B H0 H σ ρ) (ex : Ex H0 H0') : Slots K B' H0' H' σ ρ := by
  refine ⟨s.len, fun j sl e ne => ?_, s.dis⟩
  obtain ⟨v, e1, q⟩ := s.at_ j sl e ne
  refine ⟨v, e1, ?_⟩
  cases sl with
  | no => trivial
  | val d => exact Dq.mono ex q
  | own ds => exact absurd e (no j ds)
theorem temps_any (av : AllVal ts) (t : ∀ p ∈ ts, SlOk K B H0 H p.1 p.2) (ex : Ex H0 H0') : ∀ p ∈ ts, SlOk K B' H0' H' p.1 p.2 := fun p hp => by
  obtain ⟨d, e⟩ := av p hp
  have q := t p hp
  rw [e] at q ⊢
  exact Dq.mono ex q
/-- the state while rows (in slot i) may be written -/
def ROk (K : PySem.W.Frag) (B0 B : Hp) (ρ : Env) (ts : List (V × Sl)) (i : Nat) (dss : List (List PyData)) (σ : St) (H : Hp) : Prop :=
  ∃ H0 a bs, Nw B0 B H0 H ∧ Slots K B H0 H σ ρ ∧ AllVal ts ∧ (∀ p ∈ ts, SlOk K B H0 H p.1 p.2) ∧ NoOwn ρ ∧ ρ[i]? = some .no ∧ σ[i]? = some (some (.ref a)) ∧ RC K B H0 H a bs dss
/-- within: everything else as before -/
theorem ROk.step (h : ROk K B0 B ρ ts i dss σ H) : ∃ H0, SOk K H0 H ρ ts σ H ∧ ∀ ρ' ts' σ' H', SOk K H0 H ρ' ts' σ' H' → (∀ p ∈ ts, p ∈ ts') → NoOwn ρ' → ρ'[i]? = some .no → σ'[i]? = σ[i]? → ROk K B0 B ρ' ts i dss σ' H' := by
  obtain ⟨H0, a, bs, n, s, av, t, no, hi, ha, r⟩ := h
  refine ⟨H0, ⟨H0, Nw.refl n.b, slots_any no s (Ex.refl _), temps_any av t (Ex.refl _)⟩, fun ρ' ts' σ' H' ok sub no' hi' e => ?_⟩
  obtain ⟨H0', n', s', t'⟩ := ok
  exact ⟨H0', a, bs, n.trans n', slots_any no' s' (Ex.refl _), av, temps_any av (fun p hp => t' p (sub p hp)) (Ex.refl _), no', hi', by rw [e]; exact ha, r.grow n'⟩
inductive RR where
  | nx (ρ : Env) (dss : List (List PyData))
  | bad
def RR.goP (K : PySem.W.Frag) (B0 B : Hp) (ts : List (V × Sl)) (i : Nat) (D : Ends) : RR → Prop
  | .nx ρ dss => ∀ σ H, ROk K B0 B ρ ts i dss σ H → D.nx σ H
  | .bad => False
def tR (K : PySem.W.Frag) (i : Nat) (S : Env → List (List PyData) → RR) : TS := fun D σ H => ∃ B0 B ρ ts dss, ROk K B0 B ρ ts i dss σ H ∧ (S ρ dss).goP K B0 B ts i D
def rNil : Env → List (List PyData) → RR := fun ρ dss => .nx ρ dss
def rSeq (S T : Env → List (List PyData) → RR) : Env → List (List PyData) → RR := fun ρ dss => match S ρ dss with
  | .nx ρ' dss' => T ρ' dss'
  | .bad => .bad
def rIf (c : Env → Res Bool) (S T : Env → List (List PyData) → RR) : Env → List (List PyData) → RR := fun ρ dss => match c ρ with
  | .ok b => if b = true then S ρ dss else T ρ dss
  | _ => .bad
def rApp (f1 f2 : Env → Res PyData) : Env → List (List PyData) → RR := fun ρ dss => match f1 ρ, f2 ρ with
  | .ok (.int k), .ok d => if 0 ≤ k ∧ k < dss.length then (match dss[k.toNat]? with
    | some ds => if ds.length < sizeLine then .nx ρ (dss.set k.toNat (ds ++ [d])) else .bad
    | none => .bad) else .bad
  | _, _ => .bad
def rLoop (j : Nat) (S : Env → List (List PyData) → RR) : List PyData → Env → List (List PyData) → RR
  | [], ρ, dss => .nx ρ dss
  | d :: ds, ρ, dss => match S (ρ.set j (.val d)) dss with
    | .nx ρ' dss' => rLoop j S ds ρ' dss'
    | .bad => .bad
def noOwnB (ρ : Env) : Bool := ρ.all fun s => match s with
  | .own _ => false
  | _ => true
theorem noOwn_of (h : noOwnB ρ = true) : NoOwn ρ := fun j ds e => by
  have := List.all_eq_true.mp h (.own ds) (List.mem_of_getElem? e)
  cases this
theorem NoOwn.setv {d : PyData} (h : NoOwn ρ) (j : Nat) : NoOwn (ρ.set j (.val d)) := fun m ds e => by
  by_cases c : j = m
  · subst c
    rw [List.getElem?_set, if_pos rfl] at e
    split at e <;> cases e
  · rw [List.getElem?_set, if_neg c] at e
    exact h m ds e
theorem NoOwn.setno (h : NoOwn ρ) (j : Nat) : NoOwn (ρ.set j .no) := fun m ds e => by
  by_cases c : j = m
  · subst c
    rw [List.getElem?_set, if_pos rfl] at e
    split at e <;> cases e
  · rw [List.getElem?_set, if_neg c] at e
    exact h m ds e
def rFor (i j : Nat) (f : Env → Res PyData) (S : Env → List (List PyData) → RR) : Env → List (List PyData) → RR := fun ρ dss => match f ρ with
  | .ok (.int n) => if 0 ≤ n ∧ n ≤ 1000000 then rLoop j S ((List.range n.toNat).map fun (k : Nat) => .int (k : Int)) ρ dss else .bad
  | _ => .bad
end
section
variable {X : Cx} {mg : Str → Option Value} {E : XK} {pos p : Pos} {e e1 e2 : Expr} {f f1 f2 : Env → Res PyData} {i j : Nat} {S T : Env → List (List PyData) → RR} {st : Stmt} {rest : List Stmt}
theorem r_nil : PSs X [] (tR X.K i rNil) := pss_weak pss_nil fun D σ H ⟨B0, B, ρ, ts, dss, ok, q⟩ => q σ H ok
theorem r_one (h : PS X st (tR X.K i S)) : PSs X [st] (tR X.K i S) := pss_one h
theorem r_cons (h1 : PS X st (tR X.K i S)) (h2 : PSs X rest (tR X.K i T)) : PSs X (st :: rest) (tR X.K i (rSeq S T)) := pss_weak (pss_cons h1 h2) fun D σ H ⟨B0, B, ρ, ts, dss, ok, q⟩ => ⟨B0, B, ρ, ts, dss, ok, by
  unfold rSeq at q
  cases h : S ρ dss with
  | bad => rw [h] at q; exact q.elim
  | nx ρ' dss' =>
    rw [h] at q
    exact fun σ' H' ok' => ⟨B0, B, ρ', ts, dss', ok', q⟩⟩
theorem r_if {c : Expr} {xs ys : List Stmt} {tc : Env → Res Bool} (hc : PT X c (tT X.K mg E tc)) (ha : PSs X xs (tR X.K i S)) (hb : PSs X ys (tR X.K i T)) : PS X (.If c xs ys pos) (tR X.K i (rIf tc S T)) :=
  ps_weak (ps_if hc ha hb) fun D σ H ⟨B0, B, ρ, ts, dss, ok, q⟩ => by
    unfold rIf at q
    cases h : tc ρ with
    | err x => rw [h] at q; exact q.elim
    | bad => rw [h] at q; exact q.elim
    | ok b =>
      rw [h] at q
      obtain ⟨H0, sok, back⟩ := ok.step
      obtain ⟨_, _, _, _, _, _, _, no, hi, _, _⟩ := id ok
      refine ⟨H0, H, ρ, ts, sok, go_of h fun H' ok' => ?_⟩
      have r := back ρ ts σ H' ok' (fun _ h => h) no hi rfl
      cases b with
      | true => show tR X.K i S D σ H'; exact ⟨B0, B, ρ, ts, dss, r, q⟩
      | false => show tR X.K i T D σ H'; exact ⟨B0, B, ρ, ts, dss, r, q⟩
theorem r_app {x : Str} {px sp ap cp : Pos} (hN : X.N[i]? = some x) (hv : Vis X.env.scope x) (h1 : PE X e1 (tD X.K mg E f1)) (h2 : PE X e2 (tD X.K mg E f2)) (hd : (x == ("__debug__" : Str)) = false := by decide) (hcd : (x == ("__classdict__" : Str)) = false := by decide)
    (hs : PlainIx e1 := by intro _ _; rfl)
    (hsw : swapsWith (.Call (.Attribute (.Subscript (.Name x px) e1 sp) "append" ap) [e2] [] cp) none pos.line X.env = pure false := by rfl)
    (hbase : attributeBase (.Subscript (.Name x px) e1 sp) "append" X.env (eval (.Subscript (.Name x px) e1 sp) X.env) = eval (.Subscript (.Name x px) e1 sp) X.env := by rfl)
    (hfew : ((backTo cp (starEach [e2] X.env)).all (fun x => !x.1) && (backToKw cp (keywordEach [] X.env)).all (fun x => x.1.isSome) && decide ([e2].length + ([] : List Keyword).length + (if ([] : List Keyword).isEmpty then 0 else 1) < 30)) = true := by rfl)
    (hline : (ap.endLine == cp.line) = true := by rfl) (hst : starEach [e2] X.env = (false, eval e2 X.env) :: starEach [] X.env := by rfl) (hplain : (backTo cp (starEach [] X.env)).any (·.1) = false := by rfl) :
    PS X (.Expr (.Call (.Attribute (.Subscript (.Name x px) e1 sp) "append" ap) [e2] [] cp) pos) (tR X.K i (rApp f1 f2)) :=
  ps_weak (ps_expr (pe_bm PySem.F.plainAttrs_list PySem.F.slot_list_append PySem.F.type_list_append mt_append (pe_ix ix_list (pe_var hN hv hd hcd) h1 hs) (a_cons h2 a_nil hst) hbase hfew hline hst hplain) hsw) fun D σ H ⟨B0, B, ρ, ts, dss, ok, q⟩ => by
    unfold rApp at q
    split at q
    · rename_i k d e1' e2'
      split at q
      · rename_i hk
        split at q
        · rename_i ds hds
          split at q
          · rename_i hlt
            obtain ⟨H0, a, bs, n, s, av, t, no, hi, ha, r⟩ := id ok
            refine ⟨.ref a, ha, ?_⟩
            have sok : SOk X.K H0 H ρ ts σ H := ⟨H0, Nw.refl n.b, slots_any no s (Ex.refl _), temps_any av t (Ex.refl _)⟩
            refine ⟨H0, H, ρ, ts, sok, go_of e1' fun v H1 ok1 => ?_⟩
            obtain ⟨H01, n1, s1, t1⟩ := id ok1
            have hv1 : v = .int k := (show SlOk X.K H H01 H1 v (.val (.int k)) from t1 (v, .val (.int k)) (by simp)).int rfl
            have r1 := r.grow n1
            obtain ⟨b, xs, hb, bB, b0, bH, bl, bd⟩ := r1.inn.get hds
            refine ⟨a, bs.map V.ref, k, .ref b, rfl, hv1, SqL.of r1.is, ?_, .inl ⟨rfl, xs, SqL.of bH⟩, one_tA ok1 (go_of e2' fun w H2 ok2 => ?_)⟩
            · have e0 : ((k.toNat : Nat) : Int) = k := by omega
              have := L2.atI_nat (xs := bs.map V.ref) (j := k.toNat) (v := .ref b) (by rw [List.getElem?_map, hb]; rfl)
              rw [e0] at this
              exact this
            · obtain ⟨H02, n2, s2, t2⟩ := id ok2
              have r2 := r.grow n2
              have dw : Dq X.K H02 w d := (show SlOk X.K H H02 H2 w (.val d) from t2 (w, .val d) (by simp))
              obtain ⟨b', xs', hb', bB', b0', bH', bl', bd'⟩ := r2.inn.get hds
              rw [hb] at hb'
              cases hb'
              have lx := bd'.length
              refine ⟨b, xs', w, rfl, rfl, bH', by omega, q _ _ ?_⟩
              have nd := r2.nd
              rw [List.nodup_cons] at nd
              have nab : a ≠ b := fun z => nd.1 (z ▸ List.mem_of_getElem? hb)
              have nw : Nw B0 B H02 (upd H2 b (.lst (xs' ++ [w]))) := (n.trans n2).write b0' bB'
              refine ⟨H02, a, bs, nw, slots_any no s2 (Ex.refl _), av, temps_any av (fun p hp => t2 p (by simp [hp])) (Ex.refl _), no, hi, ha, r2.ba, r2.ha, by rw [upd_ne nab]; exact r2.is, r2.few, r2.nd, ?_⟩
              exact r2.inn.write (by rw [List.length_append, List.length_singleton]; omega) (bd'.append (.cons dw .nil)) nd.2 hb
          · exact q.elim
        · exact q.elim
      · exact q.elim
    · exact q.elim
theorem r_for {x : Str} {p2 pt : Pos} {body : List Stmt} (hp : PassesOwn (model X.prog X.w) X.A X.env X.xe) (hc : X.calm = true) (hij : i ≠ j) (hg : Gl X "range") (hm : X.mg "range" = none) (he : PE X e (tD X.K mg E f)) (g : PG X (.Name x pt) (gName j)) (hb : PSs X body (tR X.K i S))
    (s1 : starEach [e] X.env = (false, eval e X.env) :: starEach [] X.env := by rfl) (s2 : starEach [e] X.env = [(false, eval e X.env)] := by rfl) (hs : ∀ x, foldedSetIterable (.Call (.Name "range" p2) [e] [] p) X.env x = pure x := by intro _; rfl) :
    PS X (.For (.Name x pt) (.Call (.Name "range" p2) [e] [] p) body [] pos) (tR X.K i (rFor i j f S)) :=
  ps_weak (ps_for hp hc (pi_range1 hg hm (a_cons he a_nil s1) s2) g hb hs) fun D σ H ⟨B0, B, ρ, ts, dss, ok, q⟩ => by
    unfold rFor at q
    split at q
    · rename_i n ef
      split at q
      · rename_i hn
        obtain ⟨H0, sok, back⟩ := ok.step
        obtain ⟨_, _, _, _, _, _, _, no, hi, _, _⟩ := id ok
        refine one_tA sok (go_of ef fun v H1 ok1 => ?_)
        have hv1 : v = .int n := by
          obtain ⟨H01, n1, s1, t1⟩ := id ok1
          exact (show SlOk X.K H H01 H1 v (.val (.int n)) from t1 (v, .val (.int n)) (by simp)).int rfl
        have r1 := back ρ _ σ H1 ok1 (fun p hp => List.mem_cons_of_mem _ hp) no hi rfl
        refine ⟨n, by rw [hv1], by omega, by omega, ?_⟩
        obtain ⟨ds, hds⟩ : ∃ ds, ds = (List.range n.toNat).map fun (k : Nat) => PyData.int (k : Int) := ⟨_, rfl⟩
        have dl : ds.length = n.toNat := by rw [hds, List.length_map, List.length_range]
        rw [← hds] at q
        refine ⟨fun k m σ H => ∃ ρ' dss', m = ds.length - k ∧ k ≤ ds.length ∧ ROk X.K B0 B ρ' ts i dss' σ H ∧ (rLoop j S (ds.drop k) ρ' dss').goP X.K B0 B ts i D, ⟨ds.length, ρ, dss, by simp, Nat.zero_le _, r1, by rw [List.drop_zero]; exact q⟩, ?_⟩
        rintro k m σ H ⟨ρ', dss', rfl, hk, rk, gk⟩
        by_cases hlt : k < ds.length
        · have ed : ds.drop k = ds[k] :: ds.drop (k + 1) := List.drop_eq_getElem_cons hlt
          have ek : ds[k] = .int (k : Int) := by
            simp [hds]
          rw [ed, ek] at gk
          unfold rLoop at gk
          refine .inr ⟨by show k < n.toNat; omega, fun σ' H' => ∃ ρ' dss', ROk X.K B0 B ρ' ts i dss' σ' H' ∧ (rLoop j S (ds.drop (k + 1)) ρ' dss').goP X.K B0 B ts i D, fun σ' H' ⟨ρ2, dss2, a1, a2⟩ => ⟨ds.length - (k + 1), by omega, ρ2, dss2, rfl, hlt, a1, a2⟩, fun x H' ⟨y1, y2⟩ => ?_⟩
          subst y1 y2
          obtain ⟨H0k, sk, backk⟩ := rk.step
          obtain ⟨_, _, _, _, _, _, _, nok, hik, _, _⟩ := id rk
          have sv : SOk X.K H0k H' (ρ'.set j (.val (.int (k : Int)))) ts (σ.set j (some (.int (0 + (k : Int))))) H' := by
            rw [Int.zero_add]
            exact sk.int.set j
          have rk2 := backk _ ts _ H' sv (fun _ h => h) (nok.setv j) (by rw [List.getElem?_set, if_neg (Ne.symm hij)]; exact hik) (by rw [List.getElem?_set, if_neg (Ne.symm hij)])
          refine ⟨B0, B, _, ts, dss', rk2, ?_⟩
          cases hS : S (ρ'.set j (.val (.int (k : Int)))) dss' with
          | bad => rw [hS] at gk; exact gk.elim
          | nx ρ2 dss2 =>
            rw [hS] at gk
            exact fun σ3 H3 r3 => ⟨ρ2, dss2, r3, gk⟩
        · have ee : k = ds.length := by omega
          subst ee
          rw [List.drop_length] at gk
          exact .inl ⟨by show n.toNat ≤ ds.length; omega, gk σ H rk⟩
      · exact q.elim
    · exact q.elim
end
section
variable {K : PySem.W.Frag} {mg : Str → Option Value} {E : XK} {B0 B H0 H : Hp} {ρ : Env} {ts : List (V × Sl)} {σ : St} {m j : Nat}
theorem InAll.snoc {p : Addr} {xs : List V} {ds : List PyData} (h1 : B p = none) (h2 : H0 p = none) (h3 : H p = some (.lst xs)) (h4 : xs.length ≤ sizeLine) (h5 : DqAll K H0 xs ds) : ∀ {bs : List Addr} {dss : List (List PyData)}, InAll K B H0 H bs dss → InAll K B H0 H (bs ++ [p]) (dss ++ [ds])
  | _, _, .nil => .cons h1 h2 h3 h4 h5 .nil
  | _, _, .cons a b c d e t => .cons a b c d e (InAll.snoc h1 h2 h3 h4 h5 t)
theorem InAll.some_at : ∀ {bs : List Addr} {dss : List (List PyData)}, InAll K B H0 H bs dss → ∀ z ∈ bs, ∃ o, H z = some o
  | _, _, .nil, z, hz => by simp at hz
  | _, _, .cons _ _ c _ _ t, z, hz => by
    rcases List.mem_cons.mp hz with q | q
    · subst q; exact ⟨_, c⟩
    · exact InAll.some_at t z q
/-- the rows are no longer written -/
theorem ROk.freeze {i : Nat} {dss : List (List PyData)} (h : ROk K B0 B ρ ts i dss σ H) : SOk K B0 B (ρ.set i (.val (.list (dss.map .list)))) ts σ H := by
  obtain ⟨H0, a, bs, n, s, av, t, no, hi, ha, r⟩ := h
  have nd := r.nd
  rw [List.nodup_cons] at nd
  obtain ⟨H1, n1, e1, d1, k1⟩ := r.inn.freeze nd.2 n
  have h1a : H1 a = none := (k1 a nd.1).trans r.ha
  have n2 : Nw B0 B (upd H1 a (.lst (bs.map V.ref))) H := n1.freeze h1a r.ba r.is
  have e2 : Ex H0 (upd H1 a (.lst (bs.map V.ref))) := e1.trans (Ex.new h1a)
  have dq : Dq K (upd H1 a (.lst (bs.map V.ref))) (.ref a) (.list (dss.map .list)) := .lst upd_same (by rw [List.length_map]; exact r.few) (d1.mono (Ex.new h1a))
  have ok : SOk K B0 B ρ ((.ref a, .val (.list (dss.map .list))) :: ts) σ H := ⟨_, n2, slots_any no s e2, fun p hp => by
    rcases List.mem_cons.mp hp with z | z
    · subst z; exact dq
    · exact temps_any av t e2 p z⟩
  have := ok.set i
  rw [show σ.set i (some (.ref a)) = σ from by
    apply List.ext_getElem?
    intro q
    by_cases c : i = q
    · subst c
      have lt : i < σ.length := by
        rcases Nat.lt_or_ge i σ.length with z | z
        · exact z
        · rw [List.getElem?_eq_none z] at ha; cases ha
      rw [List.getElem?_set, if_pos rfl, if_pos lt, ha]
    · rw [List.getElem?_set, if_neg c]] at this
  exact this
end
section
variable {X : Cx} {mg : Str → Option Value} {E : XK} {pos p px pl pz spos : Pos} {e : Expr} {f : Env → Res PyData} {m j : Nat} {x z : Str} {scope : Scope} {F : Env → List (List PyData) → RR} {T : Env → RS} {s2 : Stmt} {rest : List Stmt}
theorem yes_if {P Q : Prop} (h : P) : if true = true then P else Q := h
def tNew (K : PySem.W.Frag) (m j : Nat) (f : Env → Res PyData) : TS := fun D σ H => ∃ B0 B ρ ts ds, SOk K B0 B ρ ts σ H ∧ AllVal ts ∧ f ρ = .ok (.tuple ds) ∧ isNo ρ[j]? = true ∧ NoOwn ρ ∧ m < ρ.length ∧ ∀ σ' H', ROk K B0 B (ρ.set m .no) ts m (ds.map fun d => [d]) σ' H' → D.nx σ' H'
theorem r_new (hc : X.calm = true) (hN : X.N.Nodup) (hy : X.N[m]? = some z) (hyl : X.env.scope.names.lookup z = some .local) (hsw : swapsWith (.ListComp (.List [.Name x px] pl) [⟨.Name x p, e, [], 0⟩] scope pos) (some (.Name z pz)) spos.line X.env = pure true)
    (he : PE X e (tD X.K mg E f)) (bo : BlkOk X.N X.env.scope scope [(x, j)])
    (hg : ∀ (s : Shared) (H : Hp) (C : Addr) (cl : List (Str × Addr)) (fp : List Addr), PG (X.blk s H scope (compEnvC scope cl C X.env) fp) (.Name x p) (gName j))
    (hl : ∀ (s : Shared) (H : Hp) (C : Addr) (cl : List (Str × Addr)) (fp : List Addr), PE (X.blk s H scope (compEnvC scope cl C X.env) fp) (.List [.Name x px] pl) (tLst (tCons (tVar j) tNil))) (hs : ∀ x, foldedSetIterable e X.env x = pure x := by intro _; rfl) :
    PS X (.Assign [.Name z pz] (.ListComp (.List [.Name x px] pl) [⟨.Name x p, e, [], 0⟩] scope pos) spos) (tNew X.K m j f) :=
  ps_weak (ps_setLc hc hN hy hyl hsw (pi_tup he) bo hg (fun _ _ _ _ _ => pts_nil) hl hs) fun D σ H ⟨B0, B, ρ, ts, ds, ok, av, ef, hj, no, hm, q⟩ => by
    refine ⟨B0, B, ρ, ts, ok, go_of ef fun v H1 ok1 => ?_⟩
    obtain ⟨H0, n, s, t⟩ := id ok1
    obtain ⟨a, xs, ev, tg, lx, dx⟩ := (show SlOk X.K B H0 H0 v (.val (.tuple ds)) from t (v, .val (.tuple ds)) (by simp)).tup (Ex.refl _) rfl
    have t' : ∀ p ∈ ts, SlOk X.K B H0 H1 p.1 p.2 := fun p hp => t p (List.mem_cons_of_mem _ hp)
    have lds := dx.length
    have tg0 : ∀ H', Ex H0 H' → SqT X.K H' a xs := fun H' ex => by
      obtain ⟨o, od, oe⟩ := tg
      exact TupG.sq ⟨o, od, ex _ _ oe⟩
    refine ⟨a, ev, ⟨xs, tg0 _ n.b⟩, fun Dd hD => ?_⟩
    have B_D : B Dd = none := n.c.none hD
    have H0_D : H0 Dd = none := n.b.none hD
    refine ⟨fun i k H' => ∃ bs, k = ds.length - i ∧ i ≤ ds.length ∧ Nw B0 B H0 H' ∧ SqT X.K H' a xs ∧ H' Dd = some (.lst (bs.map V.ref)) ∧ bs.length = i ∧ (Dd :: bs).Nodup ∧ InAll X.K B H0 H' bs ((ds.take i).map fun d => [d]), ⟨ds.length, [], by simp, Nat.zero_le _, n.write H0_D B_D, tg0 _ (n.b.trans (Ex.new hD)), upd_same, rfl, by simp, by rw [List.take_zero]; exact .nil⟩, ?_⟩
    rintro i k H' ⟨bs, rfl, hi, nw, sq, hd, hb, nd, inn⟩
    by_cases hlt : i < ds.length
    · refine .inr ⟨⟨xs, xs[i]'(by omega), sq, List.getElem?_eq_getElem (by omega)⟩, fun H' => ∃ bs, i + 1 ≤ ds.length ∧ Nw B0 B H0 H' ∧ SqT X.K H' a xs ∧ H' Dd = some (.lst (bs.map V.ref)) ∧ bs.length = i + 1 ∧ (Dd :: bs).Nodup ∧ InAll X.K B H0 H' bs ((ds.take (i + 1)).map fun d => [d]), fun H' ⟨bs', a1, a2⟩ => ⟨ds.length - (i + 1), by omega, bs', rfl, a1, a2⟩, fun y H2 ⟨y1, y2⟩ => ?_⟩
      subst y1
      have hy := y2 xs sq
      show (fun σ2 H2 => wipe σ2 [j] = wipe σ [j] ∧ _) ((wipe σ [j]).set j (some y)) H2
      refine ⟨wipe1 σ j _, ?_⟩
      unfold tYes
      refine yes_if ?_
      show tLst (tCons (tVar j) tNil) ((wipe σ [j]).set j (some y)) H2 _
      have lj : j < σ.length := by
        rw [set_len ok]
        rcases Nat.lt_or_ge j ρ.length with z | z
        · exact z
        · rw [List.getElem?_eq_none z] at hj; cases hj
      refine ⟨y, by rw [List.getElem?_set, if_pos rfl, if_pos (by rw [wipe_length]; exact lj)], ?_⟩
      refine ⟨by show 1 ≤ sizeLine; decide, fun pp hpp => ⟨bs.map V.ref, ?_, ?_, bs ++ [pp], by omega, ?_⟩⟩
      · rw [upd_ne (fun q => by subst q; rw [hd] at hpp; cases hpp)]
        exact hd
      · rw [List.length_map]
        have := dx.length
        omega
      · have ne : pp ≠ Dd := fun q => by subst q; rw [hd] at hpp; cases hpp
        have npb : pp ∉ bs := fun q => by
          obtain ⟨o, ho⟩ := inn.some_at pp q
          rw [ho] at hpp; cases hpp
        have H0p : H0 pp = none := nw.b.none hpp
        have Bp : B pp = none := nw.c.none hpp
        have nd2 := nd
        rw [List.nodup_cons] at nd2
        have exs : ∀ b ∈ bs, b ≠ Dd := fun b hb q => nd2.1 (q ▸ hb)
        obtain ⟨dv, ddv⟩ : ∃ d, ds[i]? = some d := ⟨ds[i], List.getElem?_eq_getElem hlt⟩
        obtain ⟨vv, hvv, dqv⟩ := dx.get ddv
        rw [hvv] at hy
        cases hy
        refine ⟨(nw.fresh hpp).write H0_D B_D, ?_, by rw [upd_same, List.map_append]; rfl, by rw [List.length_append, hb]; rfl, ?_, ?_⟩
        · exact tg0 _ ((nw.fresh (o := .lst [y]) hpp).write (o := .lst (bs.map V.ref ++ [.ref pp])) H0_D B_D).b
        · rw [List.nodup_cons]
          refine ⟨?_, ?_⟩
          · simp only [List.mem_append, List.mem_singleton, not_or]
            exact ⟨nd2.1, Ne.symm ne⟩
          · rw [List.nodup_append]
            refine ⟨nd2.2, by simp, fun u hu w hw => ?_⟩
            rw [List.mem_singleton] at hw
            subst hw
            exact fun q => npb (q ▸ hu)
        · have i1 := inn.keep (c := pp) (u := .lst [y]) fun z hz q => npb (q ▸ hz)
          have i2 := i1.keep (c := Dd) (u := .lst (bs.map V.ref ++ [.ref pp])) exs
          have i3 := i2.snoc (p := pp) (xs := [y]) (ds := [dv]) Bp H0p (by rw [upd_ne ne, upd_same]) (by show 1 ≤ sizeLine; decide) (.cons dqv .nil)
          rw [List.take_succ, ddv]
          simpa using i3
    · have e : i = ds.length := by omega
      subst e
      rw [List.take_length] at inn
      refine .inl ⟨⟨xs, sq, by omega⟩, ?_⟩
      show D.nx (σ.set m (some (.ref Dd))) H'
      refine q _ _ ⟨H0, Dd, bs, nw, ?_, av, temps_any av t' (Ex.refl _), no.setno m, ?_, ?_, B_D, H0_D, hd, by omega, nd, inn⟩
      · have s2 : Slots X.K B H0 H' σ ρ := slots_any no s (Ex.refl _)
        refine ⟨by rw [List.length_set, List.length_set]; exact s2.len, fun q sl eq ne => ?_, fun q1 q2 s1 s2' aa ne e1 e2 => ?_⟩
        · have mq : m ≠ q := fun z => by
            subst z
            rw [List.getElem?_set, if_pos rfl, if_pos hm] at eq
            cases eq
            exact ne rfl
          rw [List.getElem?_set, if_neg mq] at eq ⊢
          exact s2.at_ q sl eq ne
        · exact absurd e1 (no.setno m q1 _)
      · rw [List.getElem?_set, if_pos rfl, if_pos hm]
      · rw [List.getElem?_set, if_pos rfl, if_pos (by rw [set_len ok]; exact hm)]
def sRows (m j : Nat) (f : Env → Res PyData) (F : Env → List (List PyData) → RR) (T : Env → RS) : Env → RS := fun ρ => match f ρ with
  | .ok (.tuple ds) => if (isNo ρ[j]? && noOwnB ρ && decide (m < ρ.length)) = true then (match F (ρ.set m .no) (ds.map fun d => [d]) with
    | .nx ρ' dss => T (ρ'.set m (.val (.list (dss.map .list))))
    | .bad => .bad) else .bad
  | _ => .bad
theorem ss_rows {s1 : Stmt} (h1 : PS X s1 (tNew X.K m j f)) (h2 : PS X s2 (tR X.K m F)) (h3 : PSs X rest (tS X.K mg E T)) : PSs X (s1 :: s2 :: rest) (tS X.K mg E (sRows m j f F T)) :=
  pss_weak (pss_cons h1 (pss_cons h2 h3)) fun D σ H ⟨B0, B, ρ, ts, ok, av, q⟩ => by
    have q := q.out
    unfold sRows at q
    split at q
    · rename_i ds ef
      split at q
      · rename_i hc
        simp only [Bool.and_eq_true, decide_eq_true_eq] at hc
        refine ⟨B0, B, ρ, ts, ds, ok, av, ef, hc.1.1, noOwn_of hc.1.2, hc.2, fun σ' H' rk => ?_⟩
        split at q
        · rename_i ρ' dss eF
          refine ⟨B0, B, _, ts, _, rk, ?_⟩
          rw [eF]
          exact fun σ2 H2 r2 => ⟨B0, B, _, ts, r2.freeze, av, ⟨q⟩⟩
        · exact q.elim
      · exact q.elim
    · exact q.elim
end

/-! ### xs.extend(t), t a tuple -/
theorem list_extend_tup (l : Addr) (items : Array Value) (n : Nat) (b : Addr) (items2 : Array Value) (n2 : Nat) (sl : Array (Option Value)) (hs0 : ¬(!items.isEmpty && Builtin.List.listTooLong (items.size + items2.size)) = true) (hs1 : items.size ≤ sizeLine) (hs2 : items.size + items2.size ≤ sizeLine + 1) :
    Meets (Builtin.«list.extend» ⟨[.ref l, .ref b], []⟩) (fun _ R s => s.heap.get? l = some { cls := .type "list", dict := none, data := .seq items n, slots := #[] } ∧ s.heap.get? b = some { cls := .type "tuple", dict := none, data := .seq items2 n2, slots := sl } ∧ R (.ok (.ret Value.none)) { s with heap := s.heap.update l (Obj.mapSeq fun x => x ++ items2), toks := s.toks }) :=
  .of_wp fun prog w A R s h => by
    obtain ⟨hp, g, d, tk, os⟩ := s; obtain ⟨hl, hb, h⟩ := h; have f1 := AutoSeq1.idx_int; have f2 := AutoSeq1.sub_tuple_tuple; have f3 := AutoSeq1.sub_list_list; have f4 := AutoSeq1.sub_tuple_list; have f5 := AutoSeq1.sub_list_tuple;
    have hz' : (items ++ items2).size ≤ sizeLine + 1 := by rw [Array.size_append]; exact hs2
    wp_walk using (wpAny_updateSeq hl rfl (hz := hs1) (_hz' := hz')), wpAny_loadPart' hl, wpAny_loadPart' hb; exact ⟨_, rfl, h⟩
def rExtendT : V → List V → Hp → VK → Prop := fun x vs H Q => ∃ l b xs zs, x = .ref l ∧ vs = [.ref b] ∧ H l = some (.lst xs) ∧ TupG H b zs ∧ xs.length + zs.length ≤ sizeLine ∧ Q .non (upd H l (.lst (xs ++ zs)))
theorem mt_extendT {X : Cx} : MtM X "list.extend" rExtendT := by
  intro pins s σ H x vs v us Q I rx rv h
  obtain ⟨l, b, xs, zs, rfl, rfl, hH, ⟨o, od, hB⟩, hz, q⟩ := h
  cases rx
  obtain ⟨u, rfl, ru⟩ := rv.one
  cases ru
  obtain ⟨z, its, n, r, hl, e⟩ := I.lstM hH
  obtain ⟨g2, z2, its2, r2, ⟨o', g', oc, n2, oo⟩⟩ := (show ObjOk X.prog X.w H s.heap b (FT o zs) from I.hok b _ hB)
  rw [g2] at g'
  cases g'
  have hl2 := r2.length
  obtain ⟨oc0, od0, oa0, os0⟩ := o
  simp only at oc od oo
  subst oc od oo
  have hsz : its.toArray.size + its2.toArray.size ≤ sizeLine := by rw [List.size_toArray, List.size_toArray]; omega
  have hlong : ¬ (!its.toArray.isEmpty && Builtin.List.listTooLong (its.toArray.size + its2.toArray.size)) = true := by
    rw [notLongL hsz, Bool.and_false]
    exact Bool.false_ne_true
  refine call_meets PySem.F.slot_list_extend ⟨_, e, rfl⟩ PySem.F.entry_list_extend (PySem.F.args_list_extend_2 _ _)
    (list_extend_tup l its.toArray n b its2.toArray n2 os0 hlong (by rw [List.size_toArray]; omega) (by omega)) ⟨e, g2, ?_⟩
  refine ⟨.non, _, I.lset (its' := its ++ its2) hH e (by simp) (r.append r2) ?_, rfl, q⟩
  rw [List.length_append]
  omega
section
variable {X : Cx} {E : XK} {pos p : Pos} {e : Expr} {es : List Expr}
/-- xs.extend(e), e a tuple -/
def sExtT (i : Nat) (f : Env → Res PyData) : Env → RS := fun ρ => match ρ[i]? with
  | some (.own ds) => ofR (f ρ) fun d => match d with
    | .tuple es => if ds.length + es.length ≤ sizeLine then .nx (ρ.set i (.own (ds ++ es))) else .bad
    | _ => .bad
  | _ => .bad
theorem s_extT (hN : X.N[i]? = some x) (hv : Vis X.env.scope x) {f : Env → Res PyData} (he : PE X e (tD X.K mg E f)) (hd : (x == ("__debug__" : Str)) = false := by decide) (hcd : (x == ("__classdict__" : Str)) = false := by decide)
    (hsw : swapsWith (.Call (.Attribute (.Name x p) "extend" apos) [e] [] cpos) none pos.line X.env = pure false := by rfl)
    (hbase : attributeBase (.Name x p) "extend" X.env (eval (.Name x p) X.env) = eval (.Name x p) X.env := by rfl)
    (hfew : ((backTo cpos (starEach [e] X.env)).all (fun x => !x.1) && (backToKw cpos (keywordEach [] X.env)).all (fun x => x.1.isSome)
      && decide ([e].length + ([] : List Keyword).length + (if ([] : List Keyword).isEmpty then 0 else 1) < 30)) = true := by rfl)
    (hline : (apos.endLine == cpos.line) = true := by rfl) (hs : starEach [e] X.env = (false, eval e X.env) :: starEach [] X.env := by rfl) (hplain : (backTo cpos (starEach [] X.env)).any (·.1) = false := by rfl) :
    PS X (.Expr (.Call (.Attribute (.Name x p) "extend" apos) [e] [] cpos) pos) (tS X.K mg E (sExtT i f)) :=
  ps_weak (ps_expr (pe_bm PySem.F.plainAttrs_list PySem.F.slot_list_extend PySem.F.type_list_extend mt_extendT (pe_var hN hv hd hcd) (a_cons he a_nil hs) hbase hfew hline hs hplain) hsw) fun D σ H ⟨B0, B, ρ, ts, ok, av, q⟩ => by
    have q := q.out
    unfold sExtT at q
    split at q
    · rename_i ds hρ
      have q : (ofR (f ρ) fun d => match d with
        | .tuple es => if ds.length + es.length ≤ sizeLine then RS.nx (ρ.set i (.own (ds ++ es))) else .bad
        | _ => .bad).go X.K mg E B0 B ts D := ⟨q⟩
      obtain ⟨a, ha, key⟩ := own_at ok hρ
      obtain ⟨xs, hp, _⟩ := key ts H ok
      refine ⟨.ref a, ha, .inl ⟨rfl, xs, SqL.of hp⟩, B0, B, ρ, ts, ok, ?_⟩
      unfold eCons
      have q := ofR_go q
      cases hf : f ρ with
      | err z => rw [hf] at q; exact ⟨q.out⟩
      | bad => rw [hf] at q; exact q.bad
      | ok d =>
        rw [hf] at q
        refine ⟨fun vs H' hl ok' => ?_⟩
        cases vs with
        | nil => cases hl
        | cons v vs =>
          cases vs with
          | cons _ _ => simp at hl
          | nil =>
            have q := q.ok.out
            cases d with
            | tuple es =>
              have q : RS.goP X.K mg E B0 B ts D (if ds.length + es.length ≤ sizeLine then RS.nx (ρ.set i (.own (ds ++ es))) else .bad) := q
              split at q
              · rename_i hlt
                obtain ⟨xs', hp', hl', hlen, all⟩ := key _ H' ok'
                have ok2 : SOk X.K B0 B ρ ((v, .val (.tuple es)) :: ts) σ H' := ok'
                obtain ⟨H0, n, s, t⟩ := id ok2
                have z : SlOk X.K B H0 H' v (.val (.tuple es)) := t (v, .val (.tuple es)) (by simp)
                obtain ⟨b, zs, eb, hb, lb, db⟩ := z.tup n.b rfl
                subst eb
                have lz := db.length
                refine ⟨a, b, xs', zs, rfl, rfl, hp', hb, by omega, q _ _ ?_⟩
                have av2 : AllVal ((V.ref b, Sl.val (.tuple es)) :: ts) := fun p hp => by
                  rcases List.mem_cons.mp hp with z | z
                  · subst z; exact ⟨_, rfl⟩
                  · exact av p z
                refine (ok2.write av2 hρ ha (fun H0' n' s' t' => (all H0' s').append ?_) (by rw [List.length_append]; omega)).drop
                have z' : SlOk X.K B H0' H' (.ref b) (.val (.tuple es)) := t' (.ref b, .val (.tuple es)) (by simp)
                obtain ⟨b2, zs2, eb2, hb2, lb2, db2⟩ := z'.tup n'.b rfl
                cases eb2
                obtain ⟨o1, _, h1⟩ := hb
                obtain ⟨o2, _, h2⟩ := hb2
                rw [h1] at h2
                cases h2
                exact db2
              · exact q.elim
            | _ => exact q.elim
    · exact q.elim
end
end DL

namespace DL
open PySem L2

/-! ### exceptions by their names -/
def baseN (x : Str) : Str := if (lineOf x).isSome = true then "ParseError" else x
def isaE (x C : Str) : Bool := baseN x == C || C == "MarkError" || C == "ValueError"
def dOf (x : Str) (dd : Addr) : Option Addr := if (lineOf x).isSome = true then some dd else none
theorem baseN_plain {x : Str} (h : lineOf x = none) : baseN x = x := by unfold baseN; rw [h]; rfl
theorem baseN_line {x : Str} {l : Nat} (h : lineOf x = some l) : baseN x = "ParseError" := by unfold baseN; rw [h]; rfl
theorem lineOf_pe (l : Nat) : lineOf (peX l) = some l := by
  have h1 : peN.size = 10 := by decide +kernel
  unfold lineOf peX
  have h2 : (peN.push l).size = 11 := by rw [Array.size_push, h1]
  have h3 : (peN.push l).toList.take 10 = peN.toList := by
    rw [Array.toList_push, List.take_append_of_le_length (by rw [Array.length_toList, h1]; exact Nat.le_refl _)]
    exact List.take_of_length_le (by rw [Array.length_toList, h1]; exact Nat.le_refl _)
  rw [if_pos ⟨h2, h3⟩, Array.getElem?_push, if_pos h1.symm]
/-- what the classes L say: of the classes Cs, of ValueError, of the clause's class -/
structure XQ (K : PySem.W.Frag) (mg : Str → Option Value) (L Cs : List Str) : Prop where
  g : ∀ x ∈ L, mg x = some (.ref (ca mg x))
  gC : ∀ c ∈ Cs, mg c = some (.ref (ca mg c))
  gM : mg "MarkError" = some (.ref (ca mg "MarkError"))
  gV : mg "ValueError" = none
  ec : ∀ x ∈ L, ExcC K (ca mg x)
  kq : ∀ x ∈ L, ∀ c ∈ Cs, PySem.W.kitOne K (.ref (ca mg x)) (.ref (ca mg c)) = some (x == c || c == "MarkError" || c == "ValueError")
  kv : ∀ x ∈ L, PySem.W.kitOne K (.ref (ca mg x)) (.type "ValueError") = some true
  em : ∀ x ∈ L, PySem.W.exmOne K (.ref (ca mg x)) (.ref (ca mg "MarkError")) = some true
/-- isinstance(e, c), e the exception that the suite holds, with or without a dict -/
def rIsG (K : PySem.W.Frag) (D a : Addr) (d : Option Addr) : List V → Hp → VK → Prop := fun xs H Q => ∃ (c : V) (cv : Value) (b : Bool), xs = [.ref a, c] ∧ (∀ u, RelV c u → u = cv) ∧ PySem.W.kitOne K (.ref D) cv = some b ∧ (∀ dd, d = some dd → ∃ fs, H dd = some (.xd fs)) ∧ Q (.bl b) H
theorem call_isG {X : Cx} {a D : Addr} {d : Option Addr} {oe : Obj} {pn : List (Addr × Obj)} (C : ExcC X.K D) (hz : Zc (.ref D) d oe) (hf : ∃ vs, oe.data = .fields vs) : CallR (X.suite a ((a, oe) :: pn)) (.builtin "isinstance") (rIsG X.K D a d) := by
  intro pins s σ H xs us Q I r h
  obtain ⟨c, cv, b, rfl, hcv, e, hdd, q⟩ := h
  cases r with
  | cons rx rr =>
    cases rr with
    | cons rt rr =>
      cases rr
      cases rx
      have ec := hcv _ rt
      subst ec
      have hget := (I.pin (a, oe) (List.mem_append.mpr (.inl List.mem_cons_self))).1
      obtain ⟨vs, hv⟩ := hf
      obtain ⟨od, J⟩ : ∃ od, PySem.W.InstAt s.heap a oe D od := by
        cases d with
        | none => exact ⟨none, hget, hz.1, by unfold PySem.W.notCls; rw [hv] <;> rfl, by rw [hz.2]; trivial⟩
        | some dd =>
          obtain ⟨fs, hfs⟩ := hdd dd rfl
          obtain ⟨mA, hns, _⟩ : ObjOk X.prog X.w H s.heap dd (.xd fs) := I.hok dd _ hfs
          obtain ⟨od, ho, _⟩ := lookIn_ns hns
          exact ⟨some od, hget, hz.1, by unfold PySem.W.notCls; rw [hv] <;> rfl, by rw [hz.2]; exact ho⟩
      have hcl : (PySem.W.clsIn X.K D).isSome = true := by
        obtain ⟨cd, hc, _⟩ := PySem.W.any_some C.hd
        rw [hc]
        rfl
      exact PySem.W.kia_one (PySem.W.kitx_exc hcl C.hg C.hk C.hs C.ha C.hn C.ht C.hm) I.kIn J e (fun z => nomatch z) fun tk => ⟨.bl b, H, I.kept (t' := tk) fun _ _ z => z, rfl, q⟩
def isEx : Option Sl → Addr → Addr → Str → Bool
  | some (.val (.dict [(.bool true, .list [.int a', .int dd', .str x'])])), a, dd, x => a' == (a : Int) && dd' == (dd : Int) && x' == x
  | _, _, _, _ => false
theorem isEx_at {s : Option Sl} {a dd : Addr} {x : Str} (h : isEx s a dd x = true) : s = some (.val (exD a dd x)) := by
  unfold isEx at h
  split at h
  · simp only [Bool.and_eq_true, beq_iff_eq] at h
    obtain ⟨⟨h1, h2⟩, h3⟩ := h
    rw [h1, h2, h3]
    rfl
  · cases h
theorem isEx_self (a dd : Addr) (x : Str) : isEx (some (.val (exD a dd x))) a dd x = true := by
  show ((a : Int) == (a : Int) && (dd : Int) == (dd : Int) && x == x) = true
  simp
def eIsx (i : Nat) (a dd : Addr) (x c : Str) : Env → Res PyData := fun ρ => if isEx ρ[i]? a dd x = true then .ok (.bool (isaE x c)) else .bad
def eLine (i : Nat) (a dd : Addr) (x : Str) : Env → Res PyData := fun ρ => if isEx ρ[i]? a dd x = true then (match lineOf x with
  | some l => .ok (lineD l)
  | none => .bad) else .bad
section
variable {X : Cx} {mg : Str → Option Value} {E : XK} {a dd : Addr} {oe : Obj} {pn : List (Addr × Obj)} {x n c : Str} {i : Nat} {L Cs : List Str}
theorem ex_slot {K : PySem.W.Frag} {B0 B : Hp} {ρ : Env} {ts : List (V × Sl)} {σ : St} {H : Hp} (ok : SOk K B0 B ρ ts σ H) (h : isEx ρ[i]? a dd x = true) : σ[i]? = some (some (.ref a)) ∧ ∀ l, lineOf x = some l → H dd = some (.xd [("line", lineV l)]) := by
  obtain ⟨H0, nw, s, t⟩ := ok
  obtain ⟨v, e1, q⟩ := s.at_ i _ (isEx_at h) (by simp)
  have q : Dq K H0 v (exD a dd x) := q
  generalize hd : exD a dd x = d at q
  cases q with
  | exc a' dd' x' hl =>
    unfold exD at hd
    simp only [PyData.dict.injEq, List.cons.injEq, Prod.mk.injEq, PyData.list.injEq, PyData.int.injEq, PyData.str.injEq] at hd
    obtain ⟨⟨_, h1, h2, h3, _⟩, _⟩ := hd
    have e1' : a = a' := Int.ofNat.inj h1
    have e2' : dd = dd' := Int.ofNat.inj h2
    subst e1' e2' h3
    exact ⟨e1, fun l q => nw.b _ _ (hl l q)⟩
  | scr ns _ =>
    cases ns with
    | nil => cases hd
    | cons m ns => cases hd
  | pair _ _ _ => cases hd
  | obj _ _ _ _ _ => cases hd
  | _ => cases hd
theorem d_isX {p p2 p3 q : Pos} (Q : XQ X.K X.mg L Cs) (hx : baseN x ∈ L) (hz : Zc (.ref (ca X.mg (baseN x))) (dOf x dd) oe) (hf : ∃ vs, oe.data = .fields vs) (hN : X.N[i]? = some n) (hv : Vis X.env.scope n) (hc : c ∈ Cs) (T : Blt X.mg) (g1 : Gl X "isinstance") (g2 : Gl X c)
    (hd1 : (n == ("__debug__" : Str)) = false := by decide) (hd2 : (n == ("__classdict__" : Str)) = false := by decide) (hd3 : (c == ("__debug__" : Str)) = false := by decide)
    (he : starEach [.Name n p2, .Name c p3] X.env = (false, eval (.Name n p2) X.env) :: starEach [.Name c p3] X.env := by rfl) (hpl : (backTo q (starEach [.Name c p3] X.env)).any (·.1) = false := by rfl) (hs2 : starEach [.Name c p3] X.env = (false, eval (.Name c p3) X.env) :: starEach [] X.env := by rfl) :
    PE (X.suite a ((a, oe) :: pn)) (.Call (.Name "isinstance" p) [.Name n p2, .Name c p3] [] q) (tD X.K mg E (eIsx i a dd x c)) :=
  pe_weak (pe_callB (X := X.suite a ((a, oe) :: pn)) (call_isG (Q.ec _ hx) hz hf) g1 T.isinstance (by decide +kernel) (pa_cons (pe_var (i := i) hN hv hd1 hd2) (pa_cons (pe_glob (v := .ref (ca X.mg c)) g2 (Q.gC c hc) rfl hd3) pa_nil hs2) he) (by decide) (by decide) he hpl) fun σ H Q' ⟨B0, B, ρ, ts, ok, k⟩ => by
    unfold eIsx at k
    split at k
    · rename_i hi
      obtain ⟨e1, e2⟩ := ex_slot ok hi
      refine ⟨.ref a, e1, .ref (ca X.mg c), .ref (ca X.mg c), _, rfl, fun u r => (by cases r; rfl), Q.kq _ hx c hc, fun dd' hdd => ?_, k.ok _ _ ok.bl⟩
      unfold dOf at hdd
      cases hl : lineOf x with
      | none => rw [hl] at hdd; cases hdd
      | some l =>
        rw [hl] at hdd
        cases hdd
        exact ⟨_, e2 l hl⟩
    · exact k.bad
/-- isinstance(e, ValueError) -/
theorem d_isV {p p2 p3 q : Pos} (Q : XQ X.K X.mg L Cs) (hx : baseN x ∈ L) (hz : Zc (.ref (ca X.mg (baseN x))) (dOf x dd) oe) (hf : ∃ vs, oe.data = .fields vs) (hN : X.N[i]? = some n) (hv : Vis X.env.scope n) (T : Blt X.mg) (g1 : Gl X "isinstance") (g2 : Gl X "ValueError")
    (hd1 : (n == ("__debug__" : Str)) = false := by decide) (hd2 : (n == ("__classdict__" : Str)) = false := by decide)
    (he : starEach [.Name n p2, .Name "ValueError" p3] X.env = (false, eval (.Name n p2) X.env) :: starEach [.Name "ValueError" p3] X.env := by rfl) (hpl : (backTo q (starEach [.Name "ValueError" p3] X.env)).any (·.1) = false := by rfl) (hs2 : starEach [.Name "ValueError" p3] X.env = (false, eval (.Name "ValueError" p3) X.env) :: starEach [] X.env := by rfl) :
    PE (X.suite a ((a, oe) :: pn)) (.Call (.Name "isinstance" p) [.Name n p2, .Name "ValueError" p3] [] q) (tD X.K mg E (eIsx i a dd x "ValueError")) :=
  pe_weak (pe_callB (X := X.suite a ((a, oe) :: pn)) (call_isG (Q.ec _ hx) hz hf) g1 T.isinstance (by decide +kernel) (pa_cons (pe_var (i := i) hN hv hd1 hd2) (pa_cons (pe_bltn g2 Q.gV (by decide +kernel) (v := .ty "ValueError") rfl (by decide) (by decide)) pa_nil hs2) he) (by decide) (by decide) he hpl) fun σ H Q' ⟨B0, B, ρ, ts, ok, k⟩ => by
    unfold eIsx at k
    split at k
    · rename_i hi
      obtain ⟨e1, e2⟩ := ex_slot ok hi
      have ev : isaE x "ValueError" = true := by
        unfold isaE
        simp
      rw [ev] at k
      refine ⟨.ref a, e1, .ty "ValueError", .type "ValueError", _, rfl, fun u r => (by cases r; rfl), Q.kv _ hx, fun dd' hdd => ?_, k.ok _ _ ok.bl⟩
      unfold dOf at hdd
      cases hl : lineOf x with
      | none => rw [hl] at hdd; cases hdd
      | some l =>
        rw [hl] at hdd
        cases hdd
        exact ⟨_, e2 l hl⟩
    · exact k.bad
/-- e.line -/
theorem d_line {p2 pos : Pos} (T : XfC X.K (ca X.mg "ParseError")) (hno : PySem.W.findIn X.K (.ref (ca X.mg "ParseError")) "line" = some none) (hz : Zc (.ref (ca X.mg (baseN x))) (dOf x dd) oe) (hf : ∃ vs, oe.data = .fields vs) (hN : X.N[i]? = some n) (hv : Vis X.env.scope n)
    (hd1 : (n == ("__debug__" : Str)) = false := by decide) (hd2 : (n == ("__classdict__" : Str)) = false := by decide) (hb : attributeBase (.Name n p2) "line" X.env (eval (.Name n p2) X.env) = eval (.Name n p2) X.env := by rfl) :
    PE (X.suite a ((a, oe) :: pn)) (.Attribute (.Name n p2) "line" pos) (tD X.K mg E (eLine i a dd x)) :=
  pe_weak (pe_xf (X := X) T hno hz hf (pe_var (i := i) hN hv hd1 hd2) hb) fun σ H Q' ⟨B0, B, ρ, ts, ok, k⟩ => by
    unfold eLine at k
    split at k
    · rename_i hi
      obtain ⟨e1, e2⟩ := ex_slot ok hi
      cases hl : lineOf x with
      | none => rw [hl] at k; exact k.bad
      | some l =>
        rw [hl] at k
        refine ⟨.ref a, e1, rfl, by rw [baseN_line hl], dd, _, lineV l, by unfold dOf; rw [hl]; rfl, e2 l hl, rfl, k.ok _ _ (ok.add fun H0 => ?_)⟩
        cases l with
        | zero => exact .non
        | succ m => exact .int _
    · exact k.bad
end

theorem oEqS {X : Cx} {mg : Str → Option Value} {E : XK} {k : Nat} {a : Addr} {pn : List (Addr × Obj)} (hr : Room k X.A) : OpR (X.suite a pn) (compareOp .Eq) (rD2 X.K mg E eqD) := op_eqD' (X := X.suite a pn) (show X.A.units + 64 < cLine from ru hr)

/-! ### try: f(..) except M as n: suite, and what follows -/
def cutR (i : Nat) : RS → RS
  | .nx ρ => .nx (ρ.set i .no)
  | .ret d => .ret d
  | _ => .bad
def sTryX (i n : Nat) (L : List Str) (F : List PyData → Res PyData) (fa : Env → Res (List PyData)) (S2 : Addr → Addr → Str → Env → RS) : Env → RS := fun ρ => match fa ρ with
  | .ok ds => (match F ds with
    | .ok _ => .nx ρ
    | .err x => if L.contains (baseN x) = true ∧ ρ.length = n then cutR i (S2 0 0 x (ρ.set i (.val (exD 0 0 x)))) else .bad
    | .bad => .bad)
  | _ => .bad
theorem cutR_go {K : PySem.W.Frag} {mg : Str → Option Value} {E E' : XK} {B0 B : Hp} {ts : List (V × Sl)} {D : Ends} {i : Nat} {r : RS} (h : (cutR i r).go K mg E B0 B ts D) : r.go K mg E' B0 B ts (cutE i D) := by
  refine ⟨?_⟩
  have h := h.out
  cases r with
  | nx ρ =>
    intro σ H ok
    refine h (σ.set i none) H (ok.forget ?_ (fun j s e ne => ?_) fun j s e ne => ?_)
    · rw [List.length_set, List.length_set]
      exact set_len ok
    · by_cases hj : i = j
      · subst hj
        rw [List.getElem?_set, if_pos rfl] at e
        split at e
        · cases e; exact absurd rfl ne
        · cases e
      · rw [List.getElem?_set, if_neg hj] at e
        exact e
    · by_cases hj : i = j
      · subst hj
        rw [List.getElem?_set, if_pos rfl] at e
        split at e
        · cases e; exact absurd rfl ne
        · cases e
      · rw [List.getElem?_set, if_neg hj]
  | ret d => exact h
  | brk ρ => exact h.elim
  | cnt ρ => exact h.elim
  | err x => exact h.elim
  | bad => exact h.elim
section
variable {X : Cx} {E : XK} {n f M : Str} {i k m : Nat} {e : Expr} {es : List Expr} {p cp sp np ps pos : Pos} {b₀ : Stmt} {su : List Stmt} {L Cs qs : List Str} {F : List PyData → Res PyData} {fa : Env → Res (List PyData)} {S2 : Addr → Addr → Str → Env → RS}
/-- the body's reading: what is wished of an exception -/
def tBy (K : PySem.W.Frag) (mg : Str → Option Value) (F : List PyData → Res PyData) (fa : Env → Res (List PyData)) (W : WX) : TS := fun D σ H => ∃ B0 B ρ ts ds, SOk K B0 B ρ ts σ H ∧ fa ρ = .ok ds ∧ (match F ds with
  | .ok d => ∀ v H', SOk K B0 B ρ ((v, .val d) :: ts) σ H' → D.nx σ H'
  | .err x => ∀ H' dd, (∀ a, SOk K B0 B ρ ((.ref a, .val (exD a dd x)) :: ts) σ H') → W (.ref (ca mg (baseN x))) (dOf x dd) σ H'
  | .bad => False)
theorem by_call {W : WX} (G : Cal X.prog X.w X.K X.mg X.base k f qs F) (hr : Room k X.A) (tk : Takes X W) (hg : Gl X f) (ha : PA X (e :: es) (tA X.K X.mg E fa))
    (hdb : (f == ("__debug__" : Str)) = false := by decide) (he : starEach (e :: es) X.env = (false, eval e X.env) :: starEach es X.env := by rfl) (hpl : (backTo cp (starEach es X.env)).any (·.1) = false := by rfl)
    (hsw : swapsWith (.Call (.Name f p) (e :: es) [] cp) none sp.line X.env = pure false := by rfl) :
    PSs X [.Expr (.Call (.Name f p) (e :: es) [] cp) sp] (tBy X.K X.mg F fa W) := by
  obtain ⟨fn, fd, Fk, hm, hk, hb⟩ := G.ex
  refine pss_weak (pss_one (ps_expr (pe_callS Fk hr hg hm hk hb (fun σ => passAt tk σ) ha hdb he hpl) hsw)) fun D σ H ⟨B0, B, ρ, ts, ds, ok, ef, kk⟩ => ?_
  refine ⟨B0, B, ρ, ts, ok, go_of ef fun vs H1 hl ok1 => ?_⟩
  obtain ⟨H0, nw, s, t⟩ := id ok1
  have t' : ∀ p ∈ ts, SlOk X.K B H0 H1 p.1 p.2 := fun p hp => t p (List.mem_append_right _ hp)
  refine ⟨H0, ds, nw.b, vals_all (B := B) (H := H1) hl fun p hp => t p (List.mem_append_left _ hp), ?_⟩
  cases hF : F ds with
  | ok d =>
    rw [hF] at kk
    exact ⟨fun v B0' H' n' dv => kk v H' (mk_val (nw.trans n') (s.grow n') (fun p hp => (t' p hp).grow n') dv)⟩
  | err x =>
    rw [hF] at kk
    refine ⟨Rz.of (fun q H0' H' n' => ?_) fun l q H0' H' dd n' hd => ?_⟩
    · have z := kk H' 0 fun a => mk_val (nw.trans n') (s.grow n') (fun p hp => (t' p hp).grow n') (.exc a 0 x fun l q' => by rw [q] at q'; cases q')
      rw [baseN_plain q] at z
      unfold dOf at z
      rw [q] at z
      exact z
    · have z := kk H' dd fun a => mk_val (nw.trans n') (s.grow n') (fun p hp => (t' p hp).grow n') (.exc a dd x fun l' q' => by rw [q] at q'; cases q'; exact hd)
      rw [baseN_line q] at z
      unfold dOf at z
      rw [q] at z
      exact z
  | bad => rw [hF] at kk; exact kk.elim
theorem s_tryX (stk : X.stack = X.env :: X.outer) (frm : X.env.frame = some X.env.locals) (nd : X.N.Nodup) (hi : X.N[i]? = some n) (hln : X.env.kindOf n = some .local) (tk : Takes X (fun cls d _ H => E cls d H))
    (Q : XQ X.K X.mg L Cs) (nm : Gl X "MarkError") (G : Cal X.prog X.w X.K X.mg X.base k f qs F) (hr : Room k X.A) (hg : Gl X f)
    (ha : ∀ (E' : XK) (pn : List (Addr × Obj)) (xe : Value → Shared → Prop), PA (X.tr pn xe) (e :: es) (tA X.K X.mg E' fa))
    (hs : ∀ (a : Addr) (oe : Obj) (x : Str) (dd : Addr) (pn : List (Addr × Obj)), baseN x ∈ L → Zc (.ref (ca X.mg (baseN x))) (dOf x dd) oe → (∃ vs, oe.data = .fields vs) → PSs (X.suite a ((a, oe) :: pn)) (b₀ :: su) (tS X.K X.mg E (S2 a dd x)))
    (hA : ∀ (a dd : Addr) (x : Str) (ρ : Env), ρ.length = m → cutR i (S2 a dd x (ρ.set i (.val (exD a dd x)))) = cutR i (S2 0 0 x (ρ.set i (.val (exD 0 0 x)))))
    (hdb : (f == ("__debug__" : Str)) = false := by decide) (he : starEach (e :: es) X.env = (false, eval e X.env) :: starEach es X.env := by rfl) (hpl : (backTo cp (starEach es X.env)).any (·.1) = false := by rfl)
    (hsw : swapsWith (.Call (.Name f p) (e :: es) [] cp) none sp.line X.env = pure false := by rfl) :
    PS X (.Try [.Expr (.Call (.Name f p) (e :: es) [] cp) sp] [.ExceptHandler (some (.Name "MarkError" np)) (some n) (b₀ :: su) ps] [] [] pos) (tS X.K X.mg E (sTryX i m L F fa S2)) := by
  let ts : Sui := fun a cls d D σ H => ∃ (x : Str) (dd : Addr), cls = .ref (ca X.mg (baseN x)) ∧ d = dOf x dd ∧ baseN x ∈ L ∧ tS X.K X.mg E (S2 a dd x) D σ H
  have hh : Cls3 X n [.ExceptHandler (some (.Name "MarkError" np)) (some n) (b₀ :: su) ps] [(.ref (ca X.mg "MarkError"), ts)] := .cons ⟨nm, by decide, .inl Q.gM⟩ (fun a oe cls d pn hz hf => ⟨fun pins s σ H D I h => by
    obtain ⟨x, dd, e1, e2, hx, h⟩ := h
    subst e1 e2
    exact (hs a oe x dd pn hx hz hf).run pins s σ H D I h⟩) .nil
  refine ps_weak (try_all (tb := fun W => tBy X.K X.mg F fa W) stk frm nd hi hln tk (fun W pn xe t po => by_call (X := X.tr pn xe) (E := fun _ _ _ => False) G hr t hg (ha _ pn xe) hdb he hpl hsw) hh) fun D σ H ⟨B0, B, ρ, ts', ok, av, q⟩ => ?_
  have q := q.out
  unfold sTryX at q
  cases hf : fa ρ with
  | err x => rw [hf] at q; exact q.elim
  | bad => rw [hf] at q; exact q.elim
  | ok ds =>
    simp only [hf] at q
    refine ⟨B0, B, ρ, ts', ds, ok, hf, ?_⟩
    cases hF : F ds with
    | ok d =>
      simp only [hF] at q
      exact fun v H' ok' => q σ H' ok'.drop
    | bad => simp only [hF] at q; exact q.elim
    | err x =>
      simp only [hF] at q
      by_cases hc : L.contains (baseN x) = true ∧ ρ.length = m
      · rw [if_pos hc] at q
        have hx : baseN x ∈ L := by simpa using hc.1
        intro H' dd okA
        refine ⟨true, Q.em _ hx, fun _ a ha' => ⟨x, dd, rfl, rfl, hx, B0, B, _, ts', (okA a).set i, av, ?_⟩, fun z => nomatch z⟩
        have g : (cutR i (S2 a dd x (ρ.set i (.val (exD a dd x))))).go X.K X.mg E B0 B ts' D := by
          rw [hA a dd x ρ hc.2]
          exact ⟨q⟩
        exact cutR_go g
      · rw [if_neg hc] at q
        exact q.elim
end
end DL

namespace DL
open PySem L2

abbrev Fd := List (Str × PyData)
abbrev Os := List (Addr × Addr × Fd)
abbrev plC (K : PySem.W.Frag) : Addr := He.ga K "Planner"

/-! ### objects that are not written any more -/
def lookK (f : Str) : List (PyData × PyData) → Option PyData
  | (.str g, v) :: r => if f = g then some v else lookK f r
  | _ => none
theorem lookK_map (f : Str) : ∀ fd : Fd, lookK f (fd.map fun p => (PyData.str p.1, p.2)) = fd.lookup f
  | [] => rfl
  | (g, v) :: r => by
    rw [List.map_cons, lookK, List.lookup_cons, lookK_map f r]
    by_cases h : f = g
    · rw [if_pos h, beq_iff_eq.mpr h]
    · rw [if_neg h, beq_eq_false_iff_ne.mpr h]
def isPl : PyData → Option (List (PyData × PyData))
  | .dict [(.str x, .dict kvs)] => if x = "Planner" then some kvs else none
  | _ => none
section
variable {K : PySem.W.Frag} {H : Hp}
theorem isPl_at {v : V} {d : PyData} {kvs : List (PyData × PyData)} (h : Dq K H v d) (e : isPl d = some kvs) : ∃ a dx fs fd, v = .ref a ∧ H a = some (.ins (plC K) dx fs) ∧ kvs = (fd : Fd).map (fun p => (PyData.str p.1, p.2)) ∧ d = obD "Planner" fd ∧ fs.map (·.1) = fd.map (·.1) ∧ DqAll K H (fs.map (·.2)) (fd.map (·.2)) := by
  unfold isPl at e
  split at e
  · rename_i x kvs'
    split at e
    · rename_i hx
      cases e
      subst hx
      generalize hd : PyData.dict [(PyData.str "Planner", PyData.dict kvs)] = d at h
      cases h with
      | obj x fd h1 h2 h3 =>
        unfold obD at hd
        simp only [PyData.dict.injEq, List.cons.injEq, Prod.mk.injEq, PyData.str.injEq] at hd
        obtain ⟨⟨hx, hk⟩, _⟩ := hd
        subst hx
        exact ⟨_, _, _, fd, rfl, h1, hk, rfl, h2, h3⟩
      | scr ns _ =>
        cases ns with
        | nil => cases hd
        | cons n ns => cases hd
      | pair _ _ _ => cases hd
      | exc _ _ _ _ => cases hd
      | _ => cases hd
    · cases e
  · cases e
theorem isPl_ob (fd : Fd) : isPl (obD "Planner" fd) = some (fd.map fun p => (PyData.str p.1, p.2)) := by
  show (if (("Planner" : Str) = "Planner") then some (fd.map fun p => (PyData.str p.1, p.2)) else none) = _
  rw [if_pos rfl]
/-- a field, by data and by values -/
theorem fld_get {f : Str} : ∀ {fs : List (Str × V)} {fd : Fd}, fs.map (·.1) = fd.map (·.1) → DqAll K H (fs.map (·.2)) (fd.map (·.2)) → ∀ {d : PyData}, fd.lookup f = some d → ∃ v, fs.lookup f = some v ∧ Dq K H v d
  | [], [], _, _, d, h => by cases h
  | [], _ :: _, e, _, _, _ => by cases e
  | _ :: _, [], e, _, _, _ => by cases e
  | (g, v) :: fs, (g', d') :: fd, e, all, d, h => by
    simp only [List.map_cons, List.cons.injEq] at e
    obtain ⟨eg, e⟩ := e
    subst eg
    rw [List.map_cons, List.map_cons] at all
    cases all with
    | cons r t =>
      rw [List.lookup_cons] at h ⊢
      cases hb : f == g with
      | true => rw [hb] at h; cases h; exact ⟨v, rfl, r⟩
      | false => rw [hb] at h; exact fld_get e t h
theorem fld_none {f : Str} : ∀ {fs : List (Str × V)} {fd : Fd}, fs.map (·.1) = fd.map (·.1) → fd.lookup f = none → fs.lookup f = none
  | [], _, _, _ => rfl
  | _ :: _, [], e, _ => by cases e
  | (g, v) :: fs, (g', d') :: fd, e, h => by
    simp only [List.map_cons, List.cons.injEq] at e
    obtain ⟨eg, e⟩ := e
    subst eg
    rw [List.lookup_cons] at h ⊢
    cases hb : f == g with
    | true => rw [hb] at h; cases h
    | false => rw [hb] at h; exact fld_none e h
end
def fldD (f : Str) (d : PyData) : Res PyData := match isPl d with
  | some kvs => Res.ofOpt (lookK f kvs)
  | none => .bad
theorem fldD_ob (f : Str) (fd : Fd) : fldD f (obD "Planner" fd) = Res.ofOpt (fd.lookup f) := by
  unfold fldD
  rw [isPl_ob]
  show Res.ofOpt (lookK f _) = _
  rw [lookK_map]
def eFld (f : Str) (g : Env → Res PyData) : Env → Res PyData := fun ρ => (g ρ).bind (fldD f)
/-- what the class says -/
structure PlT (K : PySem.W.Frag) : Prop where
  cl : Cls K (plC K)
  n1 : NoAttr K (plC K) "graph"
  n2 : NoAttr K (plC K) "marks"
  n3 : NoAttr K (plC K) "chosen"
  n4 : NoAttr K (plC K) "kept"
section
variable {X : Cx} {mg : Str → Option Value} {E : XK} {pos apos p : Pos} {o e : Expr} {es : List Expr} {f m : Str} {g fo : Env → Res PyData} {fa : Env → Res (List PyData)}
theorem d_fld (c : Cls X.K (plC X.K)) (hn : NoAttr X.K (plC X.K) f) (he : PE X e (tD X.K mg E g)) (hb : attributeBase e f X.env (eval e X.env) = eval e X.env := by rfl) : PE X (.Attribute e f pos) (tD X.K mg E (eFld f g)) :=
  pe_weak (pe_fld he hb) fun σ H Q ⟨B0, B, ρ, ts, ok, q⟩ => ⟨B0, B, ρ, ts, ok, q.go_bind.go_mono fun d k v H' ok' => by
    unfold fldD at k
    cases hp : isPl d with
    | none => rw [hp] at k; exact k.bad
    | some kvs =>
      rw [hp] at k
      have k : (Res.ofOpt (lookK f kvs)).go _ _ := k
      obtain ⟨d', hd', k2⟩ := ofOpt_go k
      obtain ⟨H0, n, s, t⟩ := id ok'
      obtain ⟨a, dx, fs, fd, ev, ha, ek, _, nm, all⟩ := isPl_at (show Dq X.K H0 v d from t (v, .val d) (by simp)) hp
      subst ek
      rw [lookK_map] at hd'
      obtain ⟨w, hw, dw⟩ := fld_get nm all hd'
      exact ⟨a, _, dx, fs, w, ev, n.b _ _ ha, c, hn, hw, k2 w H' (mk_val n s (fun p hp => t p (List.mem_cons_of_mem _ hp)) dw)⟩⟩
/-- a method that only reads its object -/
structure CalM (P : Program) (w : World) (K : PySem.W.Frag) (mg : Str → Option Value) (base : Heap) (k : Nat) (m : Str) (ps : List Str) (F : List PyData → Res PyData) : Prop where
  ex : ∃ (f : Addr) (fd : FuncData), FnOk P w K mg base (L2.CX P w) k f fd ps (spD K mg F) ∧ Meth K (plC K) m f ∧ Binds K fd ps []
theorem CalM.mono {P : Program} {w : World} {K : PySem.W.Frag} {base : Heap} {j k : Nat} {ps : List Str} {F : List PyData → Res PyData} (C : CalM P w K mg base j m ps F) (h : j ≤ k) : CalM P w K mg base k m ps F :=
  let ⟨f, fd, G, r⟩ := C.ex; ⟨f, fd, G.mono h, r⟩
def noKey (m : Str) (d : PyData) : Bool := match isPl d with
  | some kvs => (lookK m kvs).isNone
  | none => false
def eMeth (m : Str) (F : List PyData → Res PyData) (fo : Env → Res PyData) (fa : Env → Res (List PyData)) : Env → Res PyData := fun ρ => (fo ρ).bind fun o => if noKey m o = true then (fa ρ).bind fun ds => F (o :: ds) else .bad
def eMethN (m : Str) (F : List PyData → Res PyData) (fo : Env → Res PyData) (fa : Env → Res (List PyData)) : Env → Res PyData := fun ρ => (fo ρ).bind fun o => if noKey m o = true then (fa ρ).bind fun ds => noErr (F (o :: ds)) else .bad
theorem noKey_at {K : PySem.W.Frag} {H : Hp} {v : V} {d : PyData} (h : Dq K H v d) (hk : noKey m d = true) : ∃ a dx fs, v = .ref a ∧ H a = some (.ins (plC K) dx fs) ∧ fs.lookup m = none := by
  unfold noKey at hk
  cases hp : isPl d with
  | none => rw [hp] at hk; cases hk
  | some kvs =>
    rw [hp] at hk
    obtain ⟨a, dx, fs, fd, ev, ha, ek, _, nm, _⟩ := isPl_at h hp
    subst ek
    simp only [lookK_map] at hk
    exact ⟨a, dx, fs, ev, ha, fld_none nm (by simpa using hk)⟩
theorem meth_go {B0 B : Hp} {ρ : Env} {ts : List (V × Sl)} {σ : St} {F : List PyData → Res PyData} {H1 : Hp} {x : V} {vs : List V} {d : PyData} {ds : List PyData} {Q : VK} (ok : SOk X.K B0 B ρ (vs.zip (ds.map Sl.val) ++ ((x, .val d) :: ts)) σ H1) (hl : vs.length = ds.length)
    (k : (F (d :: ds)).go (fun d => ∀ v H', SOk X.K B0 B ρ ((v, .val d) :: ts) σ H' → Q v H') (Rz X.mg E B0 B)) : spD X.K X.mg F (x :: (vs ++ [])) H1 Q E := by
  obtain ⟨H0, n, s, t⟩ := id ok
  refine ⟨H0, d :: ds, n.b, ?_, ?_⟩
  · rw [List.append_nil]
    exact .cons (t (x, .val d) (by simp)) (vals_all (B := B) (H := H1) hl fun p hp => t p (List.mem_append_left _ hp))
  · have t' : ∀ p ∈ ts, SlOk X.K B H0 H1 p.1 p.2 := fun p hp => t p (List.mem_append_right _ (List.mem_cons_of_mem _ hp))
    cases hF : F (d :: ds) with
    | ok r =>
      rw [hF] at k
      exact ⟨fun v B0' H' n' dv => k.ok v H' (mk_val (n.trans n') (s.grow n') (fun p hp => (t' p hp).grow n') dv)⟩
    | err z => rw [hF] at k; exact ⟨Rz.grow k.out n⟩
    | bad => rw [hF] at k; exact k.bad
theorem noErr_go {α : Type} {r : Res α} {P : α → Prop} {R R' : Str → Prop} (h : (noErr r).go P R) : r.go P R' := by
  cases r with
  | ok a => exact ⟨h.out⟩
  | err x => exact h.bad
  | bad => exact h.bad
theorem d_meth {F : List PyData → Res PyData} {k : Nat} {ps : List Str} (C : CalM X.prog X.w X.K X.mg X.base k m ps F) (c : Cls X.K (plC X.K)) (hr : Room k X.A) (hx : Passes (L2.CX X.prog X.w) X E) (ho : PE X o (tD X.K X.mg E fo)) (ha : PA X (e :: es) (tA X.K X.mg E fa)) {pl : Sem Bool}
    (hst : starEach (e :: es) X.env = (false, eval e X.env) :: starEach es X.env := by rfl) (hpl : (backTo pos (starEach es X.env)).any (·.1) = false := by rfl)
    (ht : eval (.Call (.Attribute o m apos) (e :: es) [] pos) X.env = (do let ov ← eval o X.env; standAt apos.atName; let (f, first) ← holding [ov] (getMethod ov m pl); callWith pos f first (backTo pos (starEach (e :: es) X.env)) (backToKw pos (keywordEach [] X.env))) := by rfl) :
    PE X (.Call (.Attribute o m apos) (e :: es) [] pos) (tD X.K X.mg E (eMeth m F fo fa)) := by
  obtain ⟨f, fd, G, hm, hb⟩ := C.ex
  refine pe_weak (pe_meth (pl := pl) ho c hm G hr hb .nil hx ha hst hpl ht) fun σ H Q ⟨B0, B, ρ, ts, ok, q⟩ => ⟨B0, B, ρ, ts, ok, q.go_bind.go_mono fun d kd v H1 ok1 => ?_⟩
  split at kd
  · rename_i hk
    obtain ⟨H0, n, s, t⟩ := id ok1
    obtain ⟨a, dx, fs, ev, hH, hl⟩ := noKey_at (show Dq X.K H0 v d from t (v, .val d) (by simp)) hk
    exact ⟨a, dx, fs, ev, n.b _ _ hH, hl, B0, B, ρ, _, ok1, kd.go_bind.go_mono fun ds k2 vs H2 hl2 ok2 => meth_go ok2 hl2 k2⟩
  · exact kd.bad
theorem d_methN {F : List PyData → Res PyData} {k : Nat} {ps : List Str} (C : CalM X.prog X.w X.K X.mg X.base k m ps F) (c : Cls X.K (plC X.K)) (hr : Room k X.A) (ho : PE X o (tD X.K X.mg E fo)) (ha : PA X (e :: es) (tA X.K X.mg E fa)) {pl : Sem Bool}
    (hst : starEach (e :: es) X.env = (false, eval e X.env) :: starEach es X.env := by rfl) (hpl : (backTo pos (starEach es X.env)).any (·.1) = false := by rfl)
    (ht : eval (.Call (.Attribute o m apos) (e :: es) [] pos) X.env = (do let ov ← eval o X.env; standAt apos.atName; let (f, first) ← holding [ov] (getMethod ov m pl); callWith pos f first (backTo pos (starEach (e :: es) X.env)) (backToKw pos (keywordEach [] X.env))) := by rfl) :
    PE X (.Call (.Attribute o m apos) (e :: es) [] pos) (tD X.K X.mg E (eMethN m F fo fa)) := by
  obtain ⟨f, fd, G, hm, hb⟩ := C.ex
  refine pe_weak (pe_meth (pl := pl) (E := E0) ho c hm G hr hb .nil passL ha hst hpl ht) fun σ H Q ⟨B0, B, ρ, ts, ok, q⟩ => ⟨B0, B, ρ, ts, ok, q.go_bind.go_mono fun d kd v H1 ok1 => ?_⟩
  split at kd
  · rename_i hk
    obtain ⟨H0, n, s, t⟩ := id ok1
    obtain ⟨a, dx, fs, ev, hH, hl⟩ := noKey_at (show Dq X.K H0 v d from t (v, .val d) (by simp)) hk
    exact ⟨a, dx, fs, ev, n.b _ _ hH, hl, B0, B, ρ, _, ok1, kd.go_bind.go_mono fun ds k2 vs H2 hl2 ok2 => meth_go ok2 hl2 (noErr_go k2)⟩
  · exact kd.bad
theorem d_meth0 {F : List PyData → Res PyData} {k : Nat} {ps : List Str} (C : CalM X.prog X.w X.K X.mg X.base k m ps F) (c : Cls X.K (plC X.K)) (hr : Room k X.A) (hx : Passes (L2.CX X.prog X.w) X E) (ho : PE X o (tD X.K X.mg E fo)) {pl : Sem Bool}
    (ht : eval (.Call (.Attribute o m apos) [] [] pos) X.env = (do let ov ← eval o X.env; standAt apos.atName; let (f, first) ← holding [ov] (getMethod ov m pl); callWith pos f first (backTo pos (starEach [] X.env)) (backToKw pos (keywordEach [] X.env))) := by rfl) :
    PE X (.Call (.Attribute o m apos) [] [] pos) (tD X.K X.mg E (eMeth m F fo eNil)) := by
  obtain ⟨f, fd, G, hm, hb⟩ := C.ex
  refine pe_weak (pe_meth0 (pl := pl) ho c hm G hr hb .nil hx ht) fun σ H Q ⟨B0, B, ρ, ts, ok, q⟩ => ⟨B0, B, ρ, ts, ok, q.go_bind.go_mono fun d kd v H1 ok1 => ?_⟩
  split at kd
  · rename_i hk
    obtain ⟨H0, n, s, t⟩ := id ok1
    obtain ⟨a, dx, fs, ev, hH, hl⟩ := noKey_at (show Dq X.K H0 v d from t (v, .val d) (by simp)) hk
    exact ⟨a, dx, fs, ev, n.b _ _ hH, hl, meth_go (vs := []) (ds := []) ok1 rfl kd⟩
  · exact kd.bad
theorem d_methN0 {F : List PyData → Res PyData} {k : Nat} {ps : List Str} (C : CalM X.prog X.w X.K X.mg X.base k m ps F) (c : Cls X.K (plC X.K)) (hr : Room k X.A) (ho : PE X o (tD X.K X.mg E fo)) {pl : Sem Bool}
    (ht : eval (.Call (.Attribute o m apos) [] [] pos) X.env = (do let ov ← eval o X.env; standAt apos.atName; let (f, first) ← holding [ov] (getMethod ov m pl); callWith pos f first (backTo pos (starEach [] X.env)) (backToKw pos (keywordEach [] X.env))) := by rfl) :
    PE X (.Call (.Attribute o m apos) [] [] pos) (tD X.K X.mg E (eMethN m F fo eNil)) := by
  obtain ⟨f, fd, G, hm, hb⟩ := C.ex
  refine pe_weak (pe_meth0 (pl := pl) (E := E0) ho c hm G hr hb .nil passL ht) fun σ H Q ⟨B0, B, ρ, ts, ok, q⟩ => ⟨B0, B, ρ, ts, ok, q.go_bind.go_mono fun d kd v H1 ok1 => ?_⟩
  split at kd
  · rename_i hk
    obtain ⟨H0, n, s, t⟩ := id ok1
    obtain ⟨a, dx, fs, ev, hH, hl⟩ := noKey_at (show Dq X.K H0 v d from t (v, .val d) (by simp)) hk
    exact ⟨a, dx, fs, ev, n.b _ _ hH, hl, meth_go (vs := []) (ds := []) ok1 rfl (noErr_go kd)⟩
  · exact kd.bad
/-- never reached -/
def sBad : Env → RS := fun _ => .bad
theorem s_bad {K : PySem.W.Frag} {st : Stmt} : PS X st (tS K mg E sBad) := ps_weak ps_never fun D σ H ⟨B0, B, ρ, ts, ok, av, q⟩ => q.out.elim
end
end DL

namespace DL
open PySem L2

/-! ### objects that are written: the state -/
structure Ob where
  a : Addr
  dx : Addr
  fs : List (Str × V)
  fd : Fd
def obTs (os : List Ob) : List (V × Sl) := os.flatMap fun o => (o.fs.map (·.2)).zip ((o.fd.map (·.2)).map Sl.val)
def obV (os : List Ob) : Os := os.map fun o => (o.a, o.dx, o.fd)
structure ObH (K : PySem.W.Frag) (B : Hp) (os : List Ob) (Bp : Hp) : Prop where
  at_ : ∀ o ∈ os, Bp o.a = some (.ins (plC K) o.dx o.fs) ∧ Bp o.dx = some (.own o.a)
  out : ∀ p, (∀ o ∈ os, p ≠ o.a ∧ p ≠ o.dx) → Bp p = B p
  fr : ∀ o ∈ os, B o.a = none ∧ B o.dx = none
  nd : (os.map (·.a)).Nodup
  nm : ∀ o ∈ os, o.fs.map (·.1) = o.fd.map (·.1)
  few : ∀ o ∈ os, o.fs.length < 900
def FdOk (K : PySem.W.Frag) (H0 : Hp) (os : List Ob) : Prop := ∀ o ∈ os, DqAll K H0 (o.fs.map (·.2)) (o.fd.map (·.2))
def OH (K : PySem.W.Frag) (B0 B : Hp) (os : List Ob) (H0 H : Hp) : Prop := ∃ Bp, ObH K B os Bp ∧ Nw B0 Bp H0 H ∧ FdOk K H0 os
def OOk (K : PySem.W.Frag) (B0 B : Hp) (os : List Ob) (ρ : Env) (ts : List (V × Sl)) (σ : St) (H : Hp) : Prop := ∃ Bp, ObH K B os Bp ∧ Ex B0 B ∧ AllVal ts ∧ SOk K B0 Bp ρ (obTs os ++ ts) σ H
section
variable {K : PySem.W.Frag} {mg : Str → Option Value} {E : XK} {B0 B Bp H0 H H0' H' : Hp} {os : List Ob} {ρ : Env} {ts : List (V × Sl)} {σ : St}
theorem FdOk.mono (h : FdOk K H0 os) (e : Ex H0 H0') : FdOk K H0' os := fun o ho => (h o ho).mono e
theorem obTs_fd (n : ObH K B os Bp) (t : ∀ p ∈ obTs os, SlOk K Bp H0 H p.1 p.2) : FdOk K H0 os := fun o ho => by
  have hl : (o.fs.map (·.2)).length = (o.fd.map (·.2)).length := by
    have := congrArg List.length (n.nm o ho)
    simpa using this
  exact vals_all (B := Bp) (H := H) hl fun p hp => t p (List.mem_flatMap.mpr ⟨o, ho, hp⟩)
theorem zip_vals : ∀ {vs : List V} {ds : List PyData}, DqAll K H0 vs ds → ∀ p ∈ vs.zip (ds.map Sl.val), SlOk K B H0 H p.1 p.2 ∧ ∃ d, p.2 = Sl.val d
  | _, _, .nil, p, hp => by simp at hp
  | _, _, .cons r t, p, hp => by
    rw [List.map_cons, List.zip_cons_cons] at hp
    rcases List.mem_cons.mp hp with z | z
    · subst z; exact ⟨r, _, rfl⟩
    · exact zip_vals t p z
theorem fd_obTs (f : FdOk K H0 os) : ∀ p ∈ obTs os, SlOk K Bp H0 H p.1 p.2 := fun p hp => by
  obtain ⟨o, ho, hp⟩ := List.mem_flatMap.mp hp
  exact (zip_vals (f o ho) p hp).1
theorem obTs_val : AllVal (obTs os) := fun p hp => by
  obtain ⟨o, ho, hp⟩ := List.mem_flatMap.mp hp
  have : p.2 ∈ (o.fd.map (·.2)).map Sl.val := (List.of_mem_zip hp).2
  obtain ⟨d, _, e⟩ := List.mem_map.mp this
  exact ⟨d, e.symm⟩
theorem ObH.b0 (n : ObH K B os Bp) (e : Ex B0 B) {o : Ob} (ho : o ∈ os) : B0 o.a = none ∧ B0 o.dx = none := ⟨e.none (n.fr o ho).1, e.none (n.fr o ho).2⟩
theorem Nw.noneAt (n : Nw B0 Bp H0 H) {p : Addr} {u : HO} (h0 : B0 p = none) (hb : Bp p = some u) : H0 p = none := by
  cases q : H0 p with
  | none => rfl
  | some o =>
    rcases n.d p o q with z | z
    · rw [h0] at z; cases z
    · rw [hb] at z; cases z
/-- the parts of a state -/
theorem OOk.parts (h : OOk K B0 B os ρ ts σ H) : ∃ Bp H0, ObH K B os Bp ∧ Ex B0 B ∧ AllVal ts ∧ Nw B0 Bp H0 H ∧ Slots K Bp H0 H σ ρ ∧ FdOk K H0 os ∧ (∀ p ∈ ts, SlOk K Bp H0 H p.1 p.2) ∧ ∀ o ∈ os, H0 o.a = none ∧ H0 o.dx = none := by
  obtain ⟨Bp, n, ex, av, H0, nw, s, t⟩ := h
  refine ⟨Bp, H0, n, ex, av, nw, s, obTs_fd n fun p hp => t p (List.mem_append_left _ hp), fun p hp => t p (List.mem_append_right _ hp), fun o ho => ?_⟩
  exact ⟨nw.noneAt (n.b0 ex ho).1 (n.at_ o ho).1, nw.noneAt (n.b0 ex ho).2 (n.at_ o ho).2⟩
theorem OOk.make (n : ObH K B os Bp) (ex : Ex B0 B) (av : AllVal ts) (nw : Nw B0 Bp H0 H) (s : Slots K Bp H0 H σ ρ) (f : FdOk K H0 os) (t : ∀ p ∈ ts, SlOk K Bp H0 H p.1 p.2) : OOk K B0 B os ρ ts σ H :=
  ⟨Bp, n, ex, av, H0, nw, s, fun p hp => by
    rcases List.mem_append.mp hp with z | z
    · exact fd_obTs f p z
    · exact t p z⟩
/-- the state, begun anew at what is frozen now -/
theorem OOk.anew (h : OOk K B0 B os ρ ts σ H) : ∃ Bp H0, ObH K B os Bp ∧ Ex B0 B ∧ SOk K H0 Bp ρ ts σ H ∧ FdOk K H0 os ∧
    (∀ H0' H', Nw H0 Bp H0' H' → OH K B0 B os H0' H') ∧ ∀ ρ' ts' σ' H', AllVal ts' → SOk K H0 Bp ρ' ts' σ' H' → OOk K B0 B os ρ' ts' σ' H' := by
  obtain ⟨Bp, H0, n, ex, av, nw, s, f, t, z⟩ := h.parts
  have back : ∀ {H0' H'}, Nw H0 Bp H0' H' → Nw B0 Bp H0' H' := fun {H0' H'} m => ⟨nw.a.trans m.a, m.b, m.c, fun p o q => by
    rcases m.d p o q with w | w
    · exact nw.d p o w
    · exact .inr w⟩
  refine ⟨Bp, H0, n, ex, ⟨H0, ⟨Ex.refl _, nw.b, nw.c, fun _ _ q => .inl q⟩, s, t⟩, f, fun H0' H' m => ⟨Bp, n, back m, f.mono m.a⟩, fun ρ' ts' σ' H' av' ok => ?_⟩
  obtain ⟨H0', m, s', t'⟩ := ok
  exact OOk.make n ex av' (back m) s' (f.mono m.a) t'
theorem OOk.oh (h : OOk K B0 B os ρ ts σ H) {v : V} {d : PyData} (ht : (v, Sl.val d) ∈ ts) : ∃ H0, OH K B0 B os H0 H ∧ Dq K H0 v d := by
  obtain ⟨Bp, H0, n, ex, av, nw, s, f, t, z⟩ := h.parts
  exact ⟨H0, ⟨Bp, n, nw, f⟩, t _ ht⟩
theorem OOk.sub {ts' : List (V × Sl)} (h : OOk K B0 B os ρ ts σ H) (hs : ∀ p ∈ ts', p ∈ ts) : OOk K B0 B os ρ ts' σ H := by
  obtain ⟨Bp, n, ex, av, ok⟩ := h
  refine ⟨Bp, n, ex, fun p hp => av p (hs p hp), ok.sub fun p hp => ?_⟩
  rcases List.mem_append.mp hp with z | z
  · exact List.mem_append_left _ z
  · exact List.mem_append_right _ (hs p z)
theorem OOk.set {v : V} {d : PyData} (h : OOk K B0 B os ρ ((v, .val d) :: ts) σ H) (i : Nat) : OOk K B0 B os (ρ.set i (.val d)) ts (σ.set i (some v)) H := by
  obtain ⟨Bp, n, ex, av, ok⟩ := h
  have ok2 : SOk K B0 Bp ρ ((v, .val d) :: (obTs os ++ ts)) σ H := ok.sub fun p hp => by
    rcases List.mem_cons.mp hp with z | z
    · rw [z]; exact List.mem_append_right _ List.mem_cons_self
    · rcases List.mem_append.mp z with z | z
      · exact List.mem_append_left _ z
      · exact List.mem_append_right _ (List.mem_cons_of_mem _ z)
  exact ⟨Bp, n, ex, fun p hp => av p (List.mem_cons_of_mem _ hp), ok2.set i⟩
theorem AllVal.cons {v : V} {d : PyData} (h : AllVal ts) : AllVal ((v, Sl.val d) :: ts) := fun p hp => by
  rcases List.mem_cons.mp hp with z | z
  · subst z; exact ⟨d, rfl⟩
  · exact h p z

/-! ### one object is another one: a field's store, a call -/
def setOb (os : List Ob) (o' : Ob) : List Ob := os.map fun o => if o.a = o'.a then o' else o
def setW (ws : Os) (a : Addr) (fd : Fd) : Os := ws.map fun p => if p.1 = a then (p.1, p.2.1, fd) else p
def lkO (a : Addr) (ws : Os) : Option Fd := (ws.find? fun p => p.1 == a).map fun p => p.2.2
theorem obV_set {o' : Ob} : ∀ {os : List Ob}, (∀ o ∈ os, o.a = o'.a → o.dx = o'.dx) → obV (setOb os o') = setW (obV os) o'.a o'.fd
  | [], _ => rfl
  | o :: os, h => by
    have ih := obV_set (o' := o') (os := os) fun x hx => h x (List.mem_cons_of_mem _ hx)
    have e1 : obV (setOb (o :: os) o') = ((if o.a = o'.a then o' else o).a, (if o.a = o'.a then o' else o).dx, (if o.a = o'.a then o' else o).fd) :: obV (setOb os o') := rfl
    have e2 : setW (obV (o :: os)) o'.a o'.fd = (if o.a = o'.a then (o.a, o.dx, o'.fd) else (o.a, o.dx, o.fd)) :: setW (obV os) o'.a o'.fd := rfl
    rw [e1, e2, ih]
    by_cases q : o.a = o'.a
    · rw [if_pos q, if_pos q, q, h o (by simp) q]
    · rw [if_neg q, if_neg q]
theorem lkO_at {a : Addr} {fd : Fd} : ∀ {os : List Ob}, lkO a (obV os) = some fd → ∃ o ∈ os, o.a = a ∧ o.fd = fd
  | [], h => by cases h
  | o :: os, h => by
    unfold lkO obV at h
    rw [List.map_cons, List.find?_cons] at h
    cases hb : (o.a == a) with
    | true =>
      simp only [hb] at h
      cases h
      exact ⟨o, by simp, by simpa using hb, rfl⟩
    | false =>
      simp only [hb] at h
      obtain ⟨x, hx, q⟩ := lkO_at (os := os) (a := a) (fd := fd) h
      exact ⟨x, List.mem_cons_of_mem _ hx, q⟩
theorem ObH.same (n : ObH K B os Bp) {o x : Ob} (ho : o ∈ os) (hx : x ∈ os) (e : x.a = o.a) : x = o := by
  have h := n.nd
  clear n
  induction os with
  | nil => simp at ho
  | cons y ys ih =>
    rw [List.map_cons, List.nodup_cons] at h
    rcases List.mem_cons.mp ho with z | z <;> rcases List.mem_cons.mp hx with w | w
    · rw [z, w]
    · subst z
      exact absurd (List.mem_map.mpr ⟨x, w, e⟩) h.1
    · subst w
      exact absurd (List.mem_map.mpr ⟨o, z, e.symm⟩) h.1
    · exact ih z w h.2
theorem ObH.dxne (n : ObH K B os Bp) {o x : Ob} (ho : o ∈ os) (hx : x ∈ os) : x.dx ≠ o.a := fun z => by
  have h1 := (n.at_ x hx).2
  rw [z, (n.at_ o ho).1] at h1
  cases h1
theorem ObH.dxinj (n : ObH K B os Bp) {o x : Ob} (ho : o ∈ os) (hx : x ∈ os) (e : x.dx = o.dx) : x = o := by
  have h1 := (n.at_ x hx).2
  rw [e, (n.at_ o ho).2] at h1
  have : o.a = x.a := HO.own.inj (Option.some.inj h1)
  exact n.same ho hx this.symm
theorem mem_setOb {o' x : Ob} (h : x ∈ setOb os o') : x = o' ∨ (x ∈ os ∧ x.a ≠ o'.a) := by
  obtain ⟨y, hy, e⟩ := List.mem_map.mp h
  split at e
  · exact .inl e.symm
  · rename_i q
    rw [← e]
    exact .inr ⟨hy, q⟩
theorem setOb_ads (o' : Ob) : ∀ os : List Ob, (setOb os o').map (·.a) = os.map (·.a)
  | [] => rfl
  | o :: os => by
    show (if o.a = o'.a then o' else o).a :: (setOb os o').map (·.a) = o.a :: os.map (·.a)
    rw [setOb_ads o' os]
    by_cases q : o.a = o'.a
    · rw [if_pos q, q]
    · rw [if_neg q]
theorem ObH.set (n : ObH K B os Bp) {o o' : Ob} (ho : o ∈ os) (ea : o'.a = o.a) (ed : o'.dx = o.dx) (hn : o'.fs.map (·.1) = o'.fd.map (·.1)) (hf : o'.fs.length < 900) : ObH K B (setOb os o') (upd Bp o.a (.ins (plC K) o.dx o'.fs)) where
  at_ := fun x hx => by
    rcases mem_setOb hx with z | ⟨z, ne⟩
    · subst z
      exact ⟨by rw [ea, upd_same, ed], by rw [ed, upd_ne (n.dxne ho ho), ea]; exact (n.at_ o ho).2⟩
    · rw [ea] at ne
      exact ⟨by rw [upd_ne ne]; exact (n.at_ x z).1, by rw [upd_ne (n.dxne ho z)]; exact (n.at_ x z).2⟩
  out := fun p hp => by
    have inv : ∀ x ∈ os, p ≠ x.a ∧ p ≠ x.dx := fun x hx => by
      by_cases q : x.a = o'.a
      · have := n.same ho hx (q.trans ea)
        subst this
        have h1 := hp o' (List.mem_map.mpr ⟨x, hx, by rw [if_pos q]⟩)
        rw [ea, ed] at h1
        exact h1
      · exact hp x (List.mem_map.mpr ⟨x, hx, by rw [if_neg q]⟩)
    rw [upd_ne (inv o ho).1]
    exact n.out p inv
  fr := fun x hx => by
    rcases mem_setOb hx with z | ⟨z, _⟩
    · subst z
      rw [ea, ed]
      exact n.fr o ho
    · exact n.fr x z
  nd := by rw [setOb_ads]; exact n.nd
  nm := fun x hx => by
    rcases mem_setOb hx with z | ⟨z, _⟩
    · subst z; exact hn
    · exact n.nm x z
  few := fun x hx => by
    rcases mem_setOb hx with z | ⟨z, _⟩
    · subst z; exact hf
    · exact n.few x z
/-- the heap without the object o -/
def lessO (H : Hp) (o : Ob) : Hp := fun p => if p = o.a ∨ p = o.dx then none else H p
theorem lessO_none (H : Hp) (o : Ob) : lessO H o o.a = none ∧ lessO H o o.dx = none := ⟨if_pos (.inl rfl), if_pos (.inr rfl)⟩
theorem lessO_ne {H : Hp} {o : Ob} {p : Addr} (h1 : p ≠ o.a) (h2 : p ≠ o.dx) : lessO H o p = H p := if_neg fun z => by
  rcases z with z | z
  · exact h1 z
  · exact h2 z
theorem ObH.one (n : ObH K B os Bp) (c : Ex Bp H) {o : Ob} (ho : o ∈ os) : ObH K (lessO H o) [o] H where
  at_ := fun x hx => by
    rw [List.mem_singleton.mp hx]
    exact ⟨c _ _ (n.at_ o ho).1, c _ _ (n.at_ o ho).2⟩
  out := fun p hp => (lessO_ne (hp o (by simp)).1 (hp o (by simp)).2).symm
  fr := fun x hx => by
    rw [List.mem_singleton.mp hx]
    exact lessO_none H o
  nd := by simp
  nm := fun x hx => by rw [List.mem_singleton.mp hx]; exact n.nm o ho
  few := fun x hx => by rw [List.mem_singleton.mp hx]; exact n.few o ho
/-- own lists and values stand behind a call that wrote the object -/
theorem slots_after {Bq Br : Hp} (s : Slots K Bp H0 H σ ρ) (m : Nw H0 Br H0' H') (hk : ∀ q xs, H q = some (.lst xs) → Br q = some (.lst xs)) (hb : ∀ q xs, Bp q = none → H q = some (.lst xs) → Bq q = none) : Slots K Bq H0' H' σ ρ := by
  refine ⟨s.len, fun i sl e ne => ?_, s.dis⟩
  obtain ⟨v, e1, q⟩ := s.at_ i sl e ne
  refine ⟨v, e1, ?_⟩
  cases sl with
  | no => trivial
  | val d => exact Dq.mono m.a q
  | own ds =>
    obtain ⟨a, xs, ev, hB, h0, hp, hl, hd⟩ := q
    refine ⟨a, xs, ev, hb a xs hB hp, ?_, m.c _ _ (hk a xs hp), hl, hd.mono m.a⟩
    cases z : H0' a with
    | none => rfl
    | some u =>
      rcases m.d a u z with w | w
      · rw [h0] at w; cases w
      · rw [hk a xs hp] at w; cases w
theorem vals_after {Bq : Hp} (av : AllVal ts) (t : ∀ p ∈ ts, SlOk K Bp H0 H p.1 p.2) (ex : Ex H0 H0') : ∀ p ∈ ts, SlOk K Bq H0' H' p.1 p.2 := fun p hp => by
  obtain ⟨d, e⟩ := av p hp
  have q := t p hp
  rw [e] at q ⊢
  exact Dq.mono ex q
theorem OOk.after {o o' : Ob} (n : ObH K B os Bp) (ex : Ex B0 B) (av : AllVal ts) (nw : Nw B0 Bp H0 H) (s : Slots K Bp H0 H σ ρ) (f : FdOk K H0 os) (t : ∀ p ∈ ts, SlOk K Bp H0 H p.1 p.2) (ho : o ∈ os) (ea : o'.a = o.a) (ed : o'.dx = o.dx) (oh : OH K H0 (lessO H o) [o'] H0' H') :
    ∃ Bq, ObH K B (setOb os o') Bq ∧ Nw B0 Bq H0' H' ∧ Slots K Bq H0' H' σ ρ ∧ FdOk K H0' (setOb os o') ∧ ∀ p ∈ ts, SlOk K Bq H0' H' p.1 p.2 := by
  obtain ⟨Br, n', m, f'⟩ := oh
  have hHa : H o.a = some (.ins (plC K) o.dx o.fs) := nw.c _ _ (n.at_ o ho).1
  have hHd : H o.dx = some (.own o.a) := nw.c _ _ (n.at_ o ho).2
  have r1 := (n'.at_ o' (by simp)).1
  have r2 := (n'.at_ o' (by simp)).2
  have rout : ∀ p, p ≠ o.a → p ≠ o.dx → Br p = H p := fun p h1 h2 => by
    rw [n'.out p fun x hx => by rw [List.mem_singleton.mp hx, ea, ed]; exact ⟨h1, h2⟩]
    exact lessO_ne h1 h2
  have lst : ∀ q xs, H q = some (.lst xs) → q ≠ o.a ∧ q ≠ o.dx := fun q xs hq => ⟨fun z => (by rw [z, hHa] at hq; cases hq), fun z => (by rw [z, hHd] at hq; cases hq)⟩
  refine ⟨_, n.set ho ea ed (n'.nm o' (by simp)) (n'.few o' (by simp)), ⟨nw.a.trans m.a, m.b, fun p u hp => ?_, fun p u hp => ?_⟩, slots_after s m (fun q xs hq => by rw [rout q (lst q xs hq).1 (lst q xs hq).2]; exact hq) (fun q xs h1 h2 => by rw [upd_ne (lst q xs h2).1]; exact h1), fun x hx => ?_, vals_after av t m.a⟩
  · by_cases pa : p = o.a
    · subst pa
      rw [upd_same] at hp
      cases hp
      have := m.c _ _ r1
      rw [ea, ed] at this
      exact this
    · rw [upd_ne pa] at hp
      by_cases pd : p = o.dx
      · subst pd
        rw [(n.at_ o ho).2] at hp
        cases hp
        have := m.c _ _ r2
        rw [ea, ed] at this
        exact this
      · exact m.c p u (by rw [rout p pa pd]; exact nw.c p u hp)
  · rcases m.d p u hp with w | w
    · rcases nw.d p u w with w | w
      · exact .inl w
      · refine .inr ?_
        have pa : p ≠ o.a := fun z => by rw [z, (n.at_ o ho).1] at w; cases w
        rw [upd_ne pa]
        exact w
    · refine .inr ?_
      have pa : p ≠ o.a := fun z => by rw [z, ← ea, r1] at w; cases w
      have pd : p ≠ o.dx := fun z => by rw [z, ← ed, r2] at w; cases w
      rw [upd_ne pa]
      rw [rout p pa pd] at w
      exact nw.c.none w
  · rcases mem_setOb hx with z | ⟨z, _⟩
    · subst z; exact f' x (by simp)
    · exact (f x z).mono m.a
/-- a new object beside the others -/
theorem ObH.add (n : ObH K B os Bp) {o : Ob} (ha : Bp o.a = none) (hd : Bp o.dx = none) (ne : o.dx ≠ o.a) (hn : o.fs.map (·.1) = o.fd.map (·.1)) (hf : o.fs.length < 900) : ObH K B (o :: os) (upd (upd Bp o.dx (.own o.a)) o.a (.ins (plC K) o.dx o.fs)) := by
  have na : ∀ x ∈ os, x.a ≠ o.a ∧ x.a ≠ o.dx ∧ x.dx ≠ o.a ∧ x.dx ≠ o.dx := fun x hx => by
    obtain ⟨h1, h2⟩ := n.at_ x hx
    exact ⟨ne_of_none h1 ha, ne_of_none h1 hd, ne_of_none h2 ha, ne_of_none h2 hd⟩
  have oa : ∀ x ∈ os, o.a ≠ x.a ∧ o.a ≠ x.dx := fun x hx => ⟨Ne.symm (na x hx).1, Ne.symm (na x hx).2.2.1⟩
  have od : ∀ x ∈ os, o.dx ≠ x.a ∧ o.dx ≠ x.dx := fun x hx => ⟨Ne.symm (na x hx).2.1, Ne.symm (na x hx).2.2.2⟩
  refine ⟨fun x hx => ?_, fun p hp => ?_, fun x hx => ?_, ?_, fun x hx => ?_, fun x hx => ?_⟩
  · rcases List.mem_cons.mp hx with z | z
    · subst z
      exact ⟨upd_same, by rw [upd_ne ne, upd_same]⟩
    · obtain ⟨h1, h2, h3, h4⟩ := na x z
      exact ⟨by rw [upd_ne h1, upd_ne h2]; exact (n.at_ x z).1, by rw [upd_ne h3, upd_ne h4]; exact (n.at_ x z).2⟩
  · obtain ⟨h1, h2⟩ := hp o (by simp)
    rw [upd_ne h1, upd_ne h2]
    exact n.out p fun x hx => hp x (List.mem_cons_of_mem _ hx)
  · rcases List.mem_cons.mp hx with z | z
    · subst z
      exact ⟨by rw [← n.out _ oa]; exact ha, by rw [← n.out _ od]; exact hd⟩
    · exact n.fr x z
  · rw [List.map_cons, List.nodup_cons]
    refine ⟨fun z => ?_, n.nd⟩
    obtain ⟨x, hx, e⟩ := List.mem_map.mp z
    exact (na x hx).1 e
  · rcases List.mem_cons.mp hx with z | z
    · subst z; exact hn
    · exact n.nm x z
  · rcases List.mem_cons.mp hx with z | z
    · subst z; exact hf
    · exact n.few x z
theorem OOk.born {o' : Ob} (n : ObH K B os Bp) (ex : Ex B0 B) (av : AllVal ts) (nw : Nw B0 Bp H0 H) (s : Slots K Bp H0 H σ ρ) (f : FdOk K H0 os) (t : ∀ p ∈ ts, SlOk K Bp H0 H p.1 p.2) (ha : H o'.a = none) (hd : H o'.dx = none) (oh : OH K H0 H [o'] H0' H') :
    ∃ Bq, ObH K B (o' :: os) Bq ∧ Nw B0 Bq H0' H' ∧ Slots K Bq H0' H' σ ρ ∧ FdOk K H0' (o' :: os) ∧ ∀ p ∈ ts, SlOk K Bq H0' H' p.1 p.2 := by
  obtain ⟨Br, n', m, f'⟩ := oh
  have r1 := (n'.at_ o' (by simp)).1
  have r2 := (n'.at_ o' (by simp)).2
  have ne : o'.dx ≠ o'.a := n'.dxne (by simp) (by simp)
  have rout : ∀ p, p ≠ o'.a → p ≠ o'.dx → Br p = H p := fun p h1 h2 => n'.out p fun x hx => by rw [List.mem_singleton.mp hx]; exact ⟨h1, h2⟩
  have nea : ∀ {q : Addr} {u : HO}, H q = some u → q ≠ o'.a ∧ q ≠ o'.dx := fun hq => ⟨ne_of_none hq ha, ne_of_none hq hd⟩
  refine ⟨_, n.add (o := o') (nw.c.none ha) (nw.c.none hd) ne (n'.nm o' (by simp)) (n'.few o' (by simp)), ⟨nw.a.trans m.a, m.b, fun p u hp => ?_, fun p u hp => ?_⟩, slots_after s m (fun q xs hq => by rw [rout q (nea hq).1 (nea hq).2]; exact hq) (fun q xs h1 h2 => by rw [upd_ne (nea h2).1, upd_ne (nea h2).2]; exact h1), fun x hx => ?_, vals_after av t m.a⟩
  · by_cases pa : p = o'.a
    · subst pa
      rw [upd_same] at hp
      cases hp
      exact m.c _ _ r1
    · rw [upd_ne pa] at hp
      by_cases pd : p = o'.dx
      · subst pd
        rw [upd_same] at hp
        cases hp
        exact m.c _ _ r2
      · rw [upd_ne pd] at hp
        exact m.c p u (by rw [rout p pa pd]; exact nw.c p u hp)
  · rcases m.d p u hp with w | w
    · have hH := nw.b p u w
      rcases nw.d p u w with w | w
      · exact .inl w
      · exact .inr (by rw [upd_ne (nea hH).1, upd_ne (nea hH).2]; exact w)
    · have pa : p ≠ o'.a := fun z => by rw [z, r1] at w; cases w
      have pd : p ≠ o'.dx := fun z => by rw [z, r2] at w; cases w
      rw [rout p pa pd] at w
      exact .inr (by rw [upd_ne pa, upd_ne pd]; exact nw.c.none w)
  · rcases List.mem_cons.mp hx with z | z
    · subst z; exact f' x (by simp)
    · exact (f x z).mono m.a
/-- a new object, frozen at once -/
theorem SOk.bornFrozen {o' : Ob} (nw : Nw B0 B H0 H) (s : Slots K B H0 H σ ρ) (t : ∀ p ∈ ts, SlOk K B H0 H p.1 p.2) (ha : H o'.a = none) (hd : H o'.dx = none) (oh : OH K H0 H [o'] H0' H') : SOk K B0 B ρ ((.ref o'.a, .val (obD "Planner" o'.fd)) :: ts) σ H' := by
  obtain ⟨Br, n', m, f'⟩ := oh
  have r1 := (n'.at_ o' (by simp)).1
  have r2 := (n'.at_ o' (by simp)).2
  have h0a : H0' o'.a = none := m.noneAt (nw.b.none ha) r1
  have rout : ∀ {p u}, H p = some u → Br p = some u := fun {p u} hp => by
    rw [n'.out p fun x hx => by rw [List.mem_singleton.mp hx]; exact ⟨ne_of_none hp ha, ne_of_none hp hd⟩]
    exact hp
  have gr : Nw H0 H H0' H' := ⟨m.a, m.b, fun p u hp => m.c p u (rout hp), fun p u hp => by
    rcases m.d p u hp with w | w
    · exact .inl w
    · refine .inr ?_
      cases q : H p with
      | none => rfl
      | some z => rw [rout q] at w; cases w⟩
  have fz : Nw H0 H (upd H0' o'.a (.ins (plC K) o'.dx o'.fs)) H' := gr.freeze h0a ha (m.c _ _ r1)
  have ex : Ex H0' (upd H0' o'.a (.ins (plC K) o'.dx o'.fs)) := Ex.new h0a
  refine ⟨_, nw.trans fz, s.grow fz, fun p hp => ?_⟩
  rcases List.mem_cons.mp hp with z | z
  · subst z
    exact Dq.obj "Planner" o'.fd upd_same (n'.nm o' (by simp)) ((f' o' (by simp)).mono ex)
  · exact (t p z).grow fz
end
end DL

namespace DL
open PySem L2

/-! ### readings: predicate transformers over the slots and the objects -/
structure OKt where
  nx : Env → Os → Prop
  rt : PyData → Os → Prop
  er : Str → Os → Prop
abbrev OSt := Env → Os → OKt → Prop
abbrev OEx := Env → Os → (PyData → Os → Prop) → (Str → Os → Prop) → Prop
abbrev OTx := Env → Os → (Bool → Os → Prop) → (Str → Os → Prop) → Prop
/-- what a def that writes its first argument does: fields, further arguments, ways out -/
abbrev OM := Fd → List PyData → (PyData → Fd → Prop) → (Str → Fd → Prop) → Prop
section
variable (K : PySem.W.Frag) (mg : Str → Option Value) (E : XK)
def OErr (B0 B : Hp) (x : Str) (ws : Os) : Prop := lineOf x = none ∧ ∀ os H0 H, obV os = ws → OH K B0 B os H0 H → E (.ref (ca mg x)) none H
structure OEnds (B0 B : Hp) (ts : List (V × Sl)) (D : Ends) (κ : OKt) : Prop where
  nx : ∀ ρ ws, κ.nx ρ ws → ∀ os σ H, obV os = ws → OOk K B0 B os ρ ts σ H → D.nx σ H
  rt : ∀ d ws, κ.rt d ws → ∀ os v H0 H, obV os = ws → OH K B0 B os H0 H → Dq K H0 v d → D.rt v H
  er : ∀ x ws, κ.er x ws → OErr K mg E B0 B x ws
def tO (S : OSt) : TS := fun D σ H => ∃ B0 B ρ ts os κ, OOk K B0 B os ρ ts σ H ∧ S ρ (obV os) κ ∧ OEnds K mg E B0 B ts D κ
def tOE (f : OEx) : TE := fun σ H Q => ∃ B0 B ρ ts os kv ke, OOk K B0 B os ρ ts σ H ∧ f ρ (obV os) kv ke ∧ (∀ d ws, kv d ws → ∀ os' v H', obV os' = ws → OOk K B0 B os' ρ ((v, .val d) :: ts) σ H' → Q v H') ∧ ∀ x ws, ke x ws → OErr K mg E B0 B x ws
def tOT (f : OTx) : TT := fun σ H Q => ∃ B0 B ρ ts os kb ke, OOk K B0 B os ρ ts σ H ∧ f ρ (obV os) kb ke ∧ (∀ b ws, kb b ws → ∀ os' H', obV os' = ws → OOk K B0 B os' ρ ts σ H' → Q b H') ∧ ∀ x ws, ke x ws → OErr K mg E B0 B x ws
end
/-- an opaque name of an object -/
def exO (a : Addr) : PyData := exD a 0 "o"
def asO : PyData → Option Addr
  | .dict [(.bool true, .list [.int a, .int 0, .str x])] => if 0 ≤ a ∧ x = "o" then some a.toNat else none
  | _ => none
theorem asO_ex (a : Addr) : asO (exO a) = some a := by
  show (if 0 ≤ (a : Int) ∧ ("o" : Str) = "o" then some (a : Int).toNat else none) = _
  rw [if_pos ⟨Int.natCast_nonneg a, rfl⟩, Int.toNat_natCast]
theorem asO_at {K : PySem.W.Frag} {H : Hp} {v : V} {d : PyData} {a : Addr} (h : Dq K H v d) (e : asO d = some a) : v = .ref a := by
  unfold asO at e
  split at e
  · rename_i b x
    split at e
    · rename_i hb
      obtain ⟨h0, hx⟩ := hb
      cases e
      generalize hd : PyData.dict [(PyData.bool true, PyData.list [PyData.int b, PyData.int 0, PyData.str x])] = d at h
      cases h with
      | exc a' dd' x' _ =>
        unfold exD at hd
        simp only [PyData.dict.injEq, List.cons.injEq, Prod.mk.injEq, PyData.list.injEq, PyData.int.injEq] at hd
        have e1 : b = (a' : Int) := hd.1.2.1
        rw [e1, Int.toNat_natCast]
      | scr ns _ =>
        cases ns with
        | nil => cases hd
        | cons n ns => cases hd
      | pair _ _ _ => cases hd
      | obj _ _ _ _ _ => cases hd
      | _ => cases hd
    · cases e
  · cases e
def slO (s : Option Sl) : Option Addr := match s with
  | some (.val d) => asO d
  | _ => none

/-! ### statements -/
def oPure (S : Env → RS) : OSt := fun ρ ws κ => match S ρ with
  | .nx ρ' => κ.nx ρ' ws
  | .ret d => κ.rt d ws
  | .err x => lineOf x = none ∧ κ.er x ws
  | _ => False
def oNil : OSt := fun ρ ws κ => κ.nx ρ ws
def oSeq (S T : OSt) : OSt := fun ρ ws κ => S ρ ws ⟨fun ρ' ws' => T ρ' ws' κ, κ.rt, κ.er⟩
def oIf (c : OTx) (S T : OSt) : OSt := fun ρ ws κ => c ρ ws (fun b ws' => if b = true then S ρ ws' κ else T ρ ws' κ) κ.er
def oRet (f : OEx) : OSt := fun ρ ws κ => f ρ ws κ.rt κ.er
def oExpr (f : OEx) : OSt := fun ρ ws κ => f ρ ws (fun _ ws' => κ.nx ρ ws') κ.er
def oSet (i : Nat) (f : OEx) : OSt := fun ρ ws κ => f ρ ws (fun d ws' => κ.nx (ρ.set i (.val d)) ws') κ.er
def putD (f : Str) (d : PyData) : Fd → Fd
  | [] => [(f, d)]
  | (g, x) :: r => if g = f then (g, d) :: r else (g, x) :: putD f d r
def oFld (f : Str) (i : Nat) (fe : OEx) : OSt := fun ρ ws κ => fe ρ ws (fun d ws' => match slO ρ[i]? with
  | some a => (match lkO a ws' with
    | some fd => fd.length < 800 ∧ κ.nx ρ (setW ws' a (putD f d fd))
    | none => False)
  | none => False) κ.er
def oLoop (g : PyData → Env → Option Env) (S : OSt) : List PyData → OSt
  | [], ρ, ws, κ => κ.nx ρ ws
  | d :: ds, ρ, ws, κ => match g d ρ with
    | none => False
    | some ρ1 => S ρ1 ws ⟨fun ρ' ws' => oLoop g S ds ρ' ws' κ, κ.rt, κ.er⟩
def oFor (it : Env → Res (List PyData)) (g : PyData → Env → Option Env) (S : OSt) : OSt := fun ρ ws κ => match it ρ with
  | .ok ds => oLoop g S ds ρ ws κ
  | _ => False
def oxP (f : Env → Res PyData) : OEx := fun ρ ws kv ke => match f ρ with
  | .ok d => kv d ws
  | .err x => lineOf x = none ∧ ke x ws
  | .bad => False
def otP (f : Env → Res Bool) : OTx := fun ρ ws kb ke => match f ρ with
  | .ok b => kb b ws
  | .err x => lineOf x = none ∧ ke x ws
  | .bad => False
section
variable {X : Cx} {K : PySem.W.Frag} {mg : Str → Option Value} {E : XK} {pos : Pos}
theorem oerr_rz {B0 B H0 Bp : Hp} {os : List Ob} {x : Str} (hl : lineOf x = none) (h : OErr K mg E B0 B x (obV os)) (oh : ∀ H0' H', Nw H0 Bp H0' H' → OH K B0 B os H0' H') : Rz mg E H0 Bp x :=
  Rz.of (fun _ H0' H' n => h.2 os H0' H' rfl (oh H0' H' n)) fun l q => by rw [hl] at q; cases q
theorem o_pure {st : Stmt} {S : Env → RS} (h : PS X st (tS K mg E S)) : PS X st (tO K mg E (oPure S)) := ps_weak h fun D σ H ⟨B0, B, ρ, ts, os, κ, ok, q, en⟩ => by
  obtain ⟨Bp, H0, n, ex, sok, fd, oh, back⟩ := ok.anew
  have av := ok.choose_spec.2.2.1
  refine ⟨H0, Bp, ρ, ts, sok, av, ⟨?_⟩⟩
  unfold oPure at q
  cases hS : S ρ with
  | nx ρ' =>
    rw [hS] at q
    exact fun σ' H' ok' => en.nx ρ' _ q os σ' H' rfl (back ρ' ts σ' H' av ok')
  | ret d =>
    rw [hS] at q
    exact fun v H0' H' nw dv => en.rt d _ q os v H0' H' rfl (oh H0' H' nw) dv
  | err x =>
    rw [hS] at q
    exact oerr_rz q.1 (en.er x _ q.2) oh
  | brk ρ' => rw [hS] at q; exact q.elim
  | cnt ρ' => rw [hS] at q; exact q.elim
  | bad => rw [hS] at q; exact q.elim
theorem o_pures {sts : List Stmt} {S : Env → RS} (h : PSs X sts (tS K mg E S)) : PSs X sts (tO K mg E (oPure S)) := pss_weak h fun D σ H ⟨B0, B, ρ, ts, os, κ, ok, q, en⟩ => by
  obtain ⟨Bp, H0, n, ex, sok, fd, oh, back⟩ := ok.anew
  have av := ok.choose_spec.2.2.1
  refine ⟨H0, Bp, ρ, ts, sok, av, ⟨?_⟩⟩
  unfold oPure at q
  cases hS : S ρ with
  | nx ρ' =>
    rw [hS] at q
    exact fun σ' H' ok' => en.nx ρ' _ q os σ' H' rfl (back ρ' ts σ' H' av ok')
  | ret d =>
    rw [hS] at q
    exact fun v H0' H' nw dv => en.rt d _ q os v H0' H' rfl (oh H0' H' nw) dv
  | err x =>
    rw [hS] at q
    exact oerr_rz q.1 (en.er x _ q.2) oh
  | brk ρ' => rw [hS] at q; exact q.elim
  | cnt ρ' => rw [hS] at q; exact q.elim
  | bad => rw [hS] at q; exact q.elim
theorem o_nil : PSs X [] (tO K mg E oNil) := pss_weak pss_nil fun D σ H ⟨B0, B, ρ, ts, os, κ, ok, q, en⟩ => en.nx ρ _ q os σ H rfl ok
theorem o_one {st : Stmt} {S : OSt} (h : PS X st (tO K mg E S)) : PSs X [st] (tO K mg E S) := pss_one h
theorem o_cons {st : Stmt} {rest : List Stmt} {S T : OSt} (h1 : PS X st (tO K mg E S)) (h2 : PSs X rest (tO K mg E T)) : PSs X (st :: rest) (tO K mg E (oSeq S T)) :=
  pss_weak (pss_cons h1 h2) fun D σ H ⟨B0, B, ρ, ts, os, κ, ok, q, en⟩ => ⟨B0, B, ρ, ts, os, _, ok, q, ⟨fun ρ' ws' q' os' σ' H' e' ok' => by
    subst e'
    exact ⟨B0, B, ρ', ts, os', κ, ok', q', en⟩, en.rt, en.er⟩⟩
theorem o_if {c : Expr} {a b : List Stmt} {tc : OTx} {S T : OSt} (hc : PT X c (tOT K mg E tc)) (ha : PSs X a (tO K mg E S)) (hb : PSs X b (tO K mg E T)) : PS X (.If c a b pos) (tO K mg E (oIf tc S T)) :=
  ps_weak (ps_if hc ha hb) fun D σ H ⟨B0, B, ρ, ts, os, κ, ok, q, en⟩ => ⟨B0, B, ρ, ts, os, _, _, ok, q, fun b ws q' os' H' e' ok' => by
    subst e'
    cases b with
    | true =>
      show tO K mg E S D σ H'
      exact ⟨B0, B, ρ, ts, os', κ, ok', q', en⟩
    | false =>
      show tO K mg E T D σ H'
      exact ⟨B0, B, ρ, ts, os', κ, ok', q', en⟩, en.er⟩
theorem o_ret {e : Expr} {f : OEx} (h : PE X e (tOE K mg E f)) : PS X (.Return (some e) pos) (tO K mg E (oRet f)) :=
  ps_weak (ps_ret h) fun D σ H ⟨B0, B, ρ, ts, os, κ, ok, q, en⟩ => ⟨B0, B, ρ, ts, os, _, _, ok, q, fun d ws q' os' v H' e' ok' => by
    obtain ⟨H0, oh, dv⟩ := ok'.oh (v := v) (d := d) (by simp)
    exact en.rt d ws q' os' v H0 H' e' oh dv, en.er⟩
theorem o_expr {e : Expr} {f : OEx} (h : PE X e (tOE K mg E f)) (hs : swapsWith e none pos.line X.env = pure false := by rfl) : PS X (.Expr e pos) (tO K mg E (oExpr f)) :=
  ps_weak (ps_expr h hs) fun D σ H ⟨B0, B, ρ, ts, os, κ, ok, q, en⟩ => ⟨B0, B, ρ, ts, os, _, _, ok, q, fun d ws q' os' v H' e' ok' => en.nx ρ ws q' os' σ H' e' (ok'.sub fun p hp => List.mem_cons_of_mem _ hp), en.er⟩
theorem o_set {i : Nat} {x : Str} {e : Expr} {f : OEx} {pos' : Pos} (hN : X.N.Nodup) (hi : X.N[i]? = some x) (hx : Loc X.env.scope x) (h : PE X e (tOE K mg E f)) (hs : swapsWith e (some (.Name x pos')) pos.line X.env = pure false := by rfl) (hf : X.fn x = true ∨ X.env.scope.names.lookup x = some .local := by first | exact .inl rfl | exact .inr rfl | assumption) :
    PS X (.Assign [.Name x pos'] e pos) (tO K mg E (oSet i f)) :=
  ps_weak (ps_set hN hi hx h hs hf) fun D σ H ⟨B0, B, ρ, ts, os, κ, ok, q, en⟩ => ⟨B0, B, ρ, ts, os, _, _, ok, q, fun d ws q' os' v H' e' ok' => en.nx _ ws q' os' _ H' e' (ok'.set i), en.er⟩
theorem ox_pure {e : Expr} {f : Env → Res PyData} (h : PE X e (tD K mg E f)) : PE X e (tOE K mg E (oxP f)) := pe_weak h fun σ H Q ⟨B0, B, ρ, ts, os, kv, ke, ok, q, hv, he⟩ => by
  obtain ⟨Bp, H0, n, ex, sok, fd, oh, back⟩ := ok.anew
  have av := ok.choose_spec.2.2.1
  refine ⟨H0, Bp, ρ, ts, sok, ?_⟩
  unfold oxP at q
  cases hf : f ρ with
  | ok d =>
    rw [hf] at q
    exact ⟨fun v H' ok' => hv d _ q os v H' rfl (back ρ _ σ H' av.cons ok')⟩
  | err x =>
    rw [hf] at q
    exact ⟨oerr_rz q.1 (he x _ q.2) oh⟩
  | bad => rw [hf] at q; exact q.elim
theorem ot_pure {e : Expr} {f : Env → Res Bool} (h : PT X e (tT K mg E f)) : PT X e (tOT K mg E (otP f)) := pt_weak h fun σ H Q ⟨B0, B, ρ, ts, os, kv, ke, ok, q, hv, he⟩ => by
  obtain ⟨Bp, H0, n, ex, sok, fd, oh, back⟩ := ok.anew
  have av := ok.choose_spec.2.2.1
  refine ⟨H0, Bp, ρ, ts, sok, ?_⟩
  unfold otP at q
  cases hf : f ρ with
  | ok d =>
    rw [hf] at q
    exact ⟨fun H' ok' => hv d _ q os H' rfl (back ρ _ σ H' av ok')⟩
  | err x =>
    rw [hf] at q
    exact ⟨oerr_rz q.1 (he x _ q.2) oh⟩
  | bad => rw [hf] at q; exact q.elim
theorem putF_names {f : Str} {y : V} {d : PyData} : ∀ {fs : List (Str × V)} {fd : Fd}, fs.map (·.1) = fd.map (·.1) → (putF f y fs).map (·.1) = (putD f d fd).map (·.1)
  | [], [], _ => rfl
  | [], _ :: _, e => by cases e
  | _ :: _, [], e => by cases e
  | (g, v) :: fs, (g', d') :: fd, e => by
    simp only [List.map_cons, List.cons.injEq] at e
    obtain ⟨eg, e⟩ := e
    subst eg
    unfold putF putD
    by_cases q : g = f
    · rw [if_pos q, if_pos q]; simp [e]
    · rw [if_neg q, if_neg q, List.map_cons, List.map_cons, putF_names (d := d) e]
theorem putF_all {H : Hp} {f : Str} {y : V} {d : PyData} (r : Dq K H y d) : ∀ {fs : List (Str × V)} {fd : Fd}, fs.map (·.1) = fd.map (·.1) → DqAll K H (fs.map (·.2)) (fd.map (·.2)) → DqAll K H ((putF f y fs).map (·.2)) ((putD f d fd).map (·.2))
  | [], [], _, _ => .cons r .nil
  | [], _ :: _, e, _ => by cases e
  | _ :: _, [], e, _ => by cases e
  | (g, v) :: fs, (g', d') :: fd, e, h => by
    simp only [List.map_cons, List.cons.injEq] at e
    obtain ⟨eg, e⟩ := e
    subst eg
    rw [List.map_cons, List.map_cons] at h
    cases h with
    | cons q t =>
      unfold putF putD
      by_cases z : g = f
      · rw [if_pos z, if_pos z]; exact .cons r t
      · rw [if_neg z, if_neg z]; exact .cons q (putF_all r e t)
theorem o_fld {i : Nat} {x f : Str} {value : Expr} {fe : OEx} {p pos' : Pos} (c : Cls X.K (plC X.K)) (hn : NoAttr X.K (plC X.K) f) (hN : X.N[i]? = some x) (hv : Vis X.env.scope x) (h : PE X value (tOE X.K mg E fe)) (hd : (x == ("__debug__" : Str)) = false := by decide) (hcd : (x == ("__classdict__" : Str)) = false := by decide)
    (hs : swapsWith value (some (.Attribute (.Name x p) f pos')) pos.line X.env = pure false := by rfl) : PS X (.Assign [.Attribute (.Name x p) f pos'] value pos) (tO X.K mg E (oFld f i fe)) :=
  ps_weak (ps_fld (pe_var hN hv hd hcd) h hs) fun D σ H ⟨B0, B, ρ, ts, os, κ, ok, q, en⟩ => ⟨B0, B, ρ, ts, os, _, _, ok, q, fun d ws q' os' v H' e' ok' => by
    subst e'
    cases hsl : slO ρ[i]? with
    | none => simp only [hsl] at q'
    | some a =>
      simp only [hsl] at q'
      cases hlk : lkO a (obV os') with
      | none => simp only [hlk] at q'
      | some fd =>
        simp only [hlk] at q'
        obtain ⟨few, q'⟩ := q'
        obtain ⟨o, ho, ea, efd⟩ := lkO_at hlk
        obtain ⟨Bp, H0, n, ex, av, nw, s, fo, t, z⟩ := ok'.parts
        have hσ : σ[i]? = some (some (.ref a)) := by
          cases hρ : ρ[i]? with
          | none => rw [hρ] at hsl; cases hsl
          | some sl =>
            rw [hρ] at hsl
            cases sl with
            | no => cases hsl
            | own ds => cases hsl
            | val dd =>
              obtain ⟨w, e1, q1⟩ := s.at_ i _ hρ (by simp)
              rw [asO_at q1 hsl] at e1
              exact e1
        have hlen : o.fs.length = fd.length := by
          have := congrArg List.length (n.nm o ho)
          rw [efd] at this
          simpa using this
        have dv : Dq X.K H0 v d := t (v, .val d) (by simp)
        refine ⟨.ref a, hσ, a, _, o.dx, o.fs, rfl, by rw [← ea]; exact nw.c _ _ (n.at_ o ho).1, c, hn, by omega, ?_⟩
        have nm' : (putF f v o.fs).map (·.1) = (putD f d o.fd).map (·.1) := putF_names (n.nm o ho)
        have hpl : (putF f v o.fs).length < 900 := by have := length_putF f v o.fs; omega
        have nset := n.set (o' := ⟨o.a, o.dx, putF f v o.fs, putD f d o.fd⟩) ho rfl rfl nm' hpl
        have hd0 : ∀ q u, H0 q = some u → q ≠ o.a := fun q u h1 h2 => by rw [h2, (z o ho).1] at h1; cases h1
        have nw' : Nw B0 (upd Bp o.a (.ins (plC X.K) o.dx (putF f v o.fs))) H0 (upd H' o.a (.ins (plC X.K) o.dx (putF f v o.fs))) := by
          refine ⟨nw.a, fun q u h1 => by rw [upd_ne (hd0 q u h1)]; exact nw.b q u h1, fun q u h1 => ?_, fun q u h1 => ?_⟩
          · by_cases qa : q = o.a
            · subst qa; rw [upd_same] at h1 ⊢; exact h1
            · rw [upd_ne qa] at h1 ⊢; exact nw.c q u h1
          · rw [upd_ne (hd0 q u h1)]; exact nw.d q u h1
        have hHa : H' o.a = some (.ins (plC X.K) o.dx o.fs) := nw.c _ _ (n.at_ o ho).1
        have s' : Slots X.K (upd Bp o.a (.ins (plC X.K) o.dx (putF f v o.fs))) H0 (upd H' o.a (.ins (plC X.K) o.dx (putF f v o.fs))) σ ρ := ⟨s.len, fun j sl e ne => by
          obtain ⟨w, e1, q1⟩ := s.at_ j sl e ne
          refine ⟨w, e1, ?_⟩
          cases sl with
          | no => trivial
          | val dd => exact q1
          | own ds =>
            obtain ⟨b, xs, ev, hB, h0, hp, hl, hdd⟩ := q1
            have ne : b ≠ o.a := fun z => by rw [z, hHa] at hp; cases hp
            exact ⟨b, xs, ev, by rw [upd_ne ne]; exact hB, h0, by rw [upd_ne ne]; exact hp, hl, hdd⟩, s.dis⟩
        have fin : OOk X.K B0 B (setOb os' ⟨o.a, o.dx, putF f v o.fs, putD f d o.fd⟩) ρ ts σ (upd H' o.a (.ins (plC X.K) o.dx (putF f v o.fs))) := OOk.make nset ex (fun p hp => av p (List.mem_cons_of_mem _ hp)) nw' s' (fun x hx => by
            rcases mem_setOb hx with w | ⟨w, _⟩
            · subst w; exact putF_all dv (n.nm o ho) (fo o ho)
            · exact fo x w) (vals_after (fun p hp => av p (List.mem_cons_of_mem _ hp)) (fun p hp => t p (List.mem_cons_of_mem _ hp)) (Ex.refl _))
        have ev : obV (setOb os' ⟨o.a, o.dx, putF f v o.fs, putD f d o.fd⟩) = setW (obV os') a (putD f d fd) := by
          rw [obV_set fun x hx e => by rw [n.same ho hx e], ← ea, ← efd]
        rw [← ea]
        exact en.nx ρ _ (ev ▸ q') _ σ _ rfl fin, en.er⟩
theorem o_for {tg iter : Expr} {body : List Stmt} {it : Env → Res (List PyData)} {g : PyData → Env → Option Env} {S : OSt} (hp : PassesOwn (model X.prog X.w) X.A X.env X.xe) (hc : X.calm = true) (hi : PI X tg iter (tI K mg E true it)) (hg : PG X tg (tGD K g)) (hb : PSs X body (tO K mg E S))
    (hs : ∀ x, foldedSetIterable iter X.env x = pure x := by intro _; rfl) : PS X (.For tg iter body [] pos) (tO K mg E (oFor it g S)) :=
  ps_weak (ps_for hp hc hi hg hb hs) fun D σ H ⟨B0, B, ρ, ts, os, κ, ok, q, en⟩ => by
    unfold oFor at q
    cases hf : it ρ with
    | err x => rw [hf] at q; exact q.elim
    | bad => rw [hf] at q; exact q.elim
    | ok ds =>
      rw [hf] at q
      obtain ⟨Bp, H0, n, ex, sok, fd, oh, back⟩ := ok.anew
      have av := ok.choose_spec.2.2.1
      refine ⟨H0, Bp, ρ, ts, sok, go_of hf fun J H1 tm ok1 avt itg => ?_⟩
      have avm : AllVal (tm ++ ts) := fun p hp => by
        rcases List.mem_append.mp hp with z | z
        · exact avt rfl p z
        · exact av p z
      refine ⟨fun i m σ H => ∃ ρ' os', m = ds.length - i ∧ i ≤ ds.length ∧ OOk K B0 B os' ρ' (tm ++ ts) σ H ∧ oLoop g S (ds.drop i) ρ' (obV os') κ, ⟨ds.length, ρ, os, by simp, Nat.zero_le _, back ρ _ σ H1 avm ok1, by rw [List.drop_zero]; exact q⟩, ?_⟩
      rintro i m σ H ⟨ρ', os', rfl, hi, ok2, k2⟩
      obtain ⟨Bp', H0', n', ex', sok', fd', oh', back'⟩ := ok2.anew
      by_cases hlt : i < ds.length
      · have e : ds.drop i = ds[i] :: ds.drop (i + 1) := List.drop_eq_getElem_cons hlt
        obtain ⟨g1, g2⟩ := (itg H0' Bp').go i ds[i] ρ' ts σ H (by simp [hlt]) sok'
        refine .inr ⟨g1, fun σ' H' => ∃ ρ'' os'', OOk K B0 B os'' ρ'' (tm ++ ts) σ' H' ∧ oLoop g S (ds.drop (i + 1)) ρ'' (obV os'') κ, fun σ' H' ⟨ρ'', os'', o, kk⟩ => ⟨ds.length - (i + 1), by omega, ρ'', os'', rfl, hlt, o, kk⟩, fun x H' y => ?_⟩
        have ok3 := g2 x H' y
        rw [e] at k2
        unfold oLoop at k2
        cases hgd : g ds[i] ρ' with
        | none => rw [hgd] at k2; exact k2.elim
        | some ρ1 =>
          rw [hgd] at k2
          refine ⟨H0', Bp', ρ', tm ++ ts, ds[i], ρ1, ok3, hgd, fun σ2 ok4 => ?_⟩
          refine ⟨B0, B, ρ1, tm ++ ts, os', _, back' ρ1 _ σ2 H' avm ok4, k2, ⟨fun ρ2 ws2 q2 os2 σ3 H3 e2 ok5 => ?_, en.rt, en.er⟩⟩
          subst e2
          exact ⟨ρ2, os2, ok5, q2⟩
      · have e : i = ds.length := by omega
        subst e
        rw [List.drop_length] at k2
        exact .inl ⟨(itg H0' Bp').stop _ ρ' ts σ H (Nat.le_refl _) sok', en.nx ρ' _ k2 os' σ H rfl (ok2.sub fun p hp => List.mem_append_right _ hp)⟩
end

/-! ### contracts -/
def spM (K : PySem.W.Frag) (mg : Str → Option Value) (P : OM) : Sp := fun vs H Q E => ∃ B0 B o ws ds kv ke, vs = .ref o.a :: ws ∧ ObH K B [o] H ∧ Ex B0 B ∧ FdOk K B0 [o] ∧ DqAll K B0 ws ds ∧ P o.fd ds kv ke ∧
  (∀ d fd', kv d fd' → ∀ o' v B0' H', o'.a = o.a → o'.dx = o.dx → o'.fd = fd' → OH K B0 B [o'] B0' H' → Dq K B0' v d → Q v H') ∧
  (∀ x fd', ke x fd' → lineOf x = none ∧ ∀ o' B0' H', o'.a = o.a → o'.dx = o.dx → o'.fd = fd' → OH K B0 B [o'] B0' H' → E (.ref (ca mg x)) none H')
def one (a dx : Addr) (k : Fd → Prop) (ws : Os) : Prop := ∃ fd', ws = [(a, dx, fd')] ∧ k fd'
/-- n parameters (the first is the object), m slots -/
def runM (n m : Nat) (S : OSt) : OM := fun fd ds kv ke => ds.length + 1 = n ∧ ∀ a dx, S (Sl.val (exO a) :: (ds.map Sl.val ++ List.replicate (m - n) Sl.no)) [(a, dx, fd)] ⟨fun _ ws => one a dx (kv .none) ws, fun d ws => one a dx (kv d) ws, fun x ws => one a dx (ke x) ws⟩
theorem one_at {os : List Ob} {a dx : Addr} {k : Fd → Prop} (h : one a dx k (obV os)) : ∃ o', os = [o'] ∧ o'.a = a ∧ o'.dx = dx ∧ k o'.fd := by
  obtain ⟨fd', e, hk⟩ := h
  match os, e with
  | [o'], e =>
    have e : [(o'.a, o'.dx, o'.fd)] = [(a, dx, fd')] := e
    simp only [List.cons.injEq, Prod.mk.injEq, and_true] at e
    obtain ⟨h1, h2, h3⟩ := e
    exact ⟨o', rfl, h1, h2, h3 ▸ hk⟩
theorem defM_ok {P : Program} {w : World} {K : PySem.W.Frag} {mg : Str → Option Value} {base : Heap} {x qual : Str} {st : Stmt} {f : Addr} {fd : FuncData} {N ps : List Str} {k : Nat} {S : OSt} (F : Fun K x qual st f fd) (sc : FnScope N ps (defScope st))
    (hbody : ∀ (cdv : Value) (A : Around) (outer : List PySem.Env) (s : Shared) (H : Hp) (E : XK), Room k (A.deeper (PyProof.Rows.envOfC qual (defScope st) s.heap.objs.size f cdv)) → PSs (cxOf (L2.CX P w) P w K mg base N qual (defScope st) f cdv A outer s H E) (defBody st) (tO K mg E S)) :
    FnOk P w K mg base (L2.CX P w) (k + 1) f fd ps (spM K mg (runM ps.length N.length S)) :=
  F.okX sc (fun vs H Q E ⟨B0, B, o, ws, ds, kv, ke, ev, n, ex, fo, dw, hP, _, _⟩ => by rw [ev, List.length_cons, dw.length]; exact hP.1) fun cdv A outer s H vs Q E hr ⟨B0, B, o, ws, ds, kv, ke, ev, n, ex, fo, dw, hP, hv, he⟩ => by
    subst ev
    have hl := hP.1
    have hl' : ds.length + 1 = ps.length := hl
    refine ⟨_, hbody cdv A outer s H E hr, B0, B, _, [], [o], _, ?_, hP.2 o.a o.dx, ⟨fun ρ ws' q os' σ' H' e' ok' => ?_, fun d ws' q os' v H0 H' e' oh dv => ?_, fun x' ws' q => ?_⟩⟩
    · have e0 : Ex B H := fun p u hp => by
        rw [n.out p fun y hy => by rw [List.mem_singleton.mp hy]; exact ⟨ne_of_none hp (n.fr o (by simp)).1, ne_of_none hp (n.fr o (by simp)).2⟩]
        exact hp
      have st := SOk.start (K := K) (B0 := B0) (H := H) (vs := .ref o.a :: ws) (ds := exO o.a :: ds) (N := N) (ex.trans e0) (.cons (.exc o.a 0 "o" fun l q => by cases q) dw)
      have hlen : (exO o.a :: ds).length = ps.length := hl'
      rw [hlen] at st
      refine ⟨H, n, ex, fun p hp => (nomatch hp), ?_⟩
      obtain ⟨H0, nw, sl, t⟩ := st
      exact ⟨H0, nw, sl, fun p hp => by
        rcases List.mem_append.mp hp with z | z
        · exact fd_obTs (fo.mono nw.a) p z
        · exact nomatch z⟩
    · subst e'
      obtain ⟨o', rfl, h1, h2, h3⟩ := one_at q
      obtain ⟨Bp, H0, n', ex', av, nw, s', f', t', z'⟩ := ok'.parts
      exact hv .none _ h3 o' .non H0 H' h1 h2 rfl ⟨Bp, n', nw, f'⟩ .non
    · subst e'
      obtain ⟨o', rfl, h1, h2, h3⟩ := one_at q
      exact hv d _ h3 o' v H0 H' h1 h2 rfl oh dv
    · obtain ⟨fd', ews, hk⟩ := q
      obtain ⟨hl, h⟩ := he x' fd' hk
      refine ⟨hl, fun os' H0 H' e' oh => ?_⟩
      rw [ews] at e'
      obtain ⟨o', rfl, h1, h2, h3⟩ := one_at (k := fun z => z = fd') ⟨fd', e', rfl⟩
      exact h o' H0 H' h1 h2 h3 oh
end DL

namespace DL
open PySem L2

/-! ### Planner(g, m) -/
/-- the class's own __init__, ready for use: what the new object's fields are -/
structure CalI (P : Program) (w : World) (K : PySem.W.Frag) (mg : Str → Option Value) (base : Heap) (k : Nat) (ps : List Str) (I : List PyData → Res Fd) : Prop where
  ex : ∃ (f : Addr) (fd : FuncData) (PM : OM), FnOk P w K mg base (L2.CX P w) k f fd ps (spM K mg PM) ∧ Mk K (plC K) f ∧ mg "Planner" = some (.ref (plC K)) ∧ Binds K fd ps [] ∧
    ∀ ds, (∀ fd, I ds = .ok fd → PM [] ds (fun d fd' => d = .none ∧ fd' = fd) (fun _ _ => False)) ∧ ∀ x, I ds = .err x → lineOf x = none ∧ PM [] ds (fun _ _ => False) fun y _ => y = x
theorem CalI.mono {P : Program} {w : World} {K : PySem.W.Frag} {mg : Str → Option Value} {base : Heap} {j k : Nat} {ps : List Str} {I : List PyData → Res Fd} (C : CalI P w K mg base j ps I) (h : j ≤ k) : CalI P w K mg base k ps I :=
  let ⟨f, fd, PM, G, r⟩ := C.ex; ⟨f, fd, PM, G.mono h, r⟩
def eMake (I : List PyData → Res Fd) (fa : Env → Res (List PyData)) : Env → Res PyData := fun ρ => (fa ρ).bind fun ds => (I ds).bind fun fd => .ok (obD "Planner" fd)
def eMakeN (I : List PyData → Res Fd) (fa : Env → Res (List PyData)) : Env → Res PyData := fun ρ => (fa ρ).bind fun ds => (noErr (I ds)).bind fun fd => .ok (obD "Planner" fd)
section
variable {X : Cx} {E : XK} {pos p : Pos} {e : Expr} {es : List Expr} {fa : Env → Res (List PyData)}
/-- a new instance without fields -/
theorem ob_new {K : PySem.W.Frag} {H : Hp} {x dx : Addr} (hx : H x = none) (hd : H dx = none) (ne : dx ≠ x) : ObH K H [⟨x, dx, [], []⟩] (upd (upd H dx (.own x)) x (.ins (plC K) dx [])) where
  at_ := fun o ho => by
    rw [List.mem_singleton.mp ho]
    exact ⟨upd_same, by rw [upd_ne ne, upd_same]⟩
  out := fun q hq => by
    obtain ⟨h1, h2⟩ := hq _ (List.mem_singleton.mpr rfl)
    rw [upd_ne h1, upd_ne h2]
  fr := fun o ho => by
    rw [List.mem_singleton.mp ho]
    exact ⟨hx, hd⟩
  nd := by simp
  nm := fun o ho => by rw [List.mem_singleton.mp ho]; rfl
  few := fun o ho => by rw [List.mem_singleton.mp ho]; show 0 < 900; decide
theorem fd_nil {K : PySem.W.Frag} {H : Hp} {x dx : Addr} : FdOk K H [⟨x, dx, [], []⟩] := fun o ho => by
  rw [List.mem_singleton.mp ho]
  exact .nil
theorem make_go {I : List PyData → Res Fd} {PM : OM} {B0 B H1 : Hp} {ρ : Env} {ts : List (V × Sl)} {σ : St} {vs : List V} {ds : List PyData} {Q : VK} {E' : XK} (hI : ∀ ds, (∀ fd, I ds = .ok fd → PM [] ds (fun d fd' => d = .none ∧ fd' = fd) (fun _ _ => False)) ∧ ∀ x, I ds = .err x → lineOf x = none ∧ PM [] ds (fun _ _ => False) fun y _ => y = x)
    (ok : SOk X.K B0 B ρ (vs.zip (ds.map Sl.val) ++ ts) σ H1) (hl : vs.length = ds.length) (k : (I ds).go (fun fd => ∀ v H', SOk X.K B0 B ρ ((v, .val (obD "Planner" fd)) :: ts) σ H' → Q v H') (Rz X.mg E' B0 B)) (x dx : Addr) (hx : H1 x = none) (hd : H1 dx = none) (ne : dx ≠ x) :
    spM X.K X.mg PM (.ref x :: (vs ++ [])) (upd (upd H1 dx (.own x)) x (.ins (plC X.K) dx [])) (fun v H2 => v = .non ∧ Q (.ref x) H2) E' := by
  obtain ⟨H0, nw, s, t⟩ := id ok
  have t' : ∀ p ∈ ts, SlOk X.K B H0 H1 p.1 p.2 := fun p hp => t p (List.mem_append_right _ hp)
  have dq : DqAll X.K H0 (vs ++ []) ds := by
    rw [List.append_nil]
    exact vals_all (B := B) (H := H1) hl fun p hp => t p (List.mem_append_left _ hp)
  obtain ⟨i1, i2⟩ := hI ds
  cases hF : I ds with
  | ok fd =>
    rw [hF] at k
    refine ⟨H0, H1, ⟨x, dx, [], []⟩, vs ++ [], ds, _, _, rfl, ob_new hx hd ne, nw.b, fd_nil, dq, i1 fd hF, fun d fd' hk o' v B0' H' ea ed ef oh dv => ?_, fun _ _ z => z.elim⟩
    obtain ⟨e1, e2⟩ := hk
    subst e1
    have ev : v = .non := by cases dv; rfl
    refine ⟨ev, k.ok (.ref x) H' ?_⟩
    have b := SOk.bornFrozen (o' := o') nw s t' (by rw [ea]; exact hx) (by rw [ed]; exact hd) oh
    rw [ea, ef, e2] at b
    exact b
  | err z =>
    rw [hF] at k
    obtain ⟨hz, hP⟩ := i2 z hF
    refine ⟨H0, H1, ⟨x, dx, [], []⟩, vs ++ [], ds, _, _, rfl, ob_new hx hd ne, nw.b, fd_nil, dq, hP, fun _ _ z => z.elim, fun y fd' ey => ?_⟩
    subst ey
    refine ⟨hz, fun o' B0' H' ea ed ef ⟨Bp, n', m, _⟩ => (show Rz X.mg E' B0 B y from k.out).plain hz B0' H' (nw.trans ⟨m.a, m.b, fun q u hq => m.c q u ?_, fun q u hq => ?_⟩)⟩
    · rw [n'.out q fun w hw => by rw [List.mem_singleton.mp hw, ea, ed]; exact ⟨ne_of_none hq hx, ne_of_none hq hd⟩]
      exact hq
    · rcases m.d q u hq with w | w
      · exact .inl w
      · refine .inr ?_
        cases hh : H1 q with
        | none => rfl
        | some u' =>
          rw [n'.out q fun w hw => by rw [List.mem_singleton.mp hw, ea, ed]; exact ⟨ne_of_none hh hx, ne_of_none hh hd⟩, hh] at w
          cases w
  | bad => rw [hF] at k; exact k.bad
theorem go_bindP {α β : Type} {r : Res α} {f : α → β} {P : β → Prop} {R : Str → Prop} (h : (r.bind fun a => .ok (f a)).go P R) : r.go (fun a => P (f a)) R := by
  cases r with
  | ok a => exact ⟨h.out⟩
  | err x => exact ⟨h.out⟩
  | bad => exact ⟨h.out⟩
theorem d_make {I : List PyData → Res Fd} {k : Nat} {ps : List Str} (C : CalI X.prog X.w X.K X.mg X.base k ps I) (hr : Room (k + 1) X.A) (hx : Passes (L2.CX X.prog X.w) X E) (hg : Gl X "Planner") (ha : PA X (e :: es) (tA X.K X.mg E fa))
    (he : starEach (e :: es) X.env = (false, eval e X.env) :: starEach es X.env := by rfl) (hpl : (backTo pos (starEach es X.env)).any (·.1) = false := by rfl) : PE X (.Call (.Name "Planner" p) (e :: es) [] pos) (tD X.K X.mg E (eMake I fa)) := by
  obtain ⟨f, fd, PM, G, mk, gm, hb, hI⟩ := C.ex
  exact pe_weak (pe_make mk G hr hg gm hb .nil hx ha (by decide) he hpl) fun σ H Q ⟨B0, B, ρ, ts, ok, q⟩ => ⟨B0, B, ρ, ts, ok, q.go_bind.go_mono fun ds k vs H1 hl ok1 x dx hx hd ne => make_go hI ok1 hl (go_bindP k) x dx hx hd ne⟩
theorem d_makeN {I : List PyData → Res Fd} {k : Nat} {ps : List Str} (C : CalI X.prog X.w X.K X.mg X.base k ps I) (hr : Room (k + 1) X.A) (hg : Gl X "Planner") (ha : PA X (e :: es) (tA X.K X.mg E fa))
    (he : starEach (e :: es) X.env = (false, eval e X.env) :: starEach es X.env := by rfl) (hpl : (backTo pos (starEach es X.env)).any (·.1) = false := by rfl) : PE X (.Call (.Name "Planner" p) (e :: es) [] pos) (tD X.K X.mg E (eMakeN I fa)) := by
  obtain ⟨f, fd, PM, G, mk, gm, hb, hI⟩ := C.ex
  exact pe_weak (pe_make (E := E0) mk G hr hg gm hb .nil passL ha (by decide) he hpl) fun σ H Q ⟨B0, B, ρ, ts, ok, q⟩ => ⟨B0, B, ρ, ts, ok, q.go_bind.go_mono fun ds k vs H1 hl ok1 x dx hx hd ne => make_go hI ok1 hl (noErr_go (go_bindP k)) x dx hx hd ne⟩
end
/-- the fields that __init__ writes: check is what it calls first -/
def fd0 (g m : PyData) : Fd := [("graph", g), ("marks", m), ("chosen", .tuple []), ("kept", .int 0)]
def initI (C : List PyData → Res PyData) : List PyData → Res Fd
  | [g, m] => (match C [g, m] with
    | .ok _ => .ok (fd0 g m)
    | .err x => if lineOf x = none then .err x else .bad
    | .bad => .bad)
  | _ => .bad
def initS (C : List PyData → Res PyData) : OSt := oSeq (oPure (sExpr (eCall C (eCons (eVar 1) (eCons (eVar 2) eNil))))) (oSeq (oFld "graph" 0 (oxP (eVar 1))) (oSeq (oFld "marks" 0 (oxP (eVar 2))) (oSeq (oFld "chosen" 0 (oxP (eTup eNil))) (oFld "kept" 0 (oxP (eC (.int 0)))))))
theorem init_I (C : List PyData → Res PyData) (ds : List PyData) : (∀ fd, initI C ds = .ok fd → runM 3 3 (initS C) [] ds (fun d fd' => d = .none ∧ fd' = fd) (fun _ _ => False)) ∧ ∀ x, initI C ds = .err x → lineOf x = none ∧ runM 3 3 (initS C) [] ds (fun _ _ => False) fun y _ => y = x := by
  match ds with
  | [] => exact ⟨fun _ h => (nomatch h), fun _ h => (nomatch h)⟩
  | [_] => exact ⟨fun _ h => (nomatch h), fun _ h => (nomatch h)⟩
  | _ :: _ :: _ :: _ => exact ⟨fun _ h => (nomatch h), fun _ h => (nomatch h)⟩
  | [g, m] =>
    have e0 : initI C [g, m] = (match C [g, m] with
      | .ok _ => .ok (fd0 g m)
      | .err x => if lineOf x = none then .err x else .bad
      | .bad => .bad) := rfl
    rw [e0]
    have lk : ∀ (a dx : Addr) (fd : Fd), lkO a [(a, dx, fd)] = some fd := fun a dx fd => by
      unfold lkO
      simp
    have st : ∀ (a dx : Addr) (fd fd' : Fd), setW [(a, dx, fd)] a fd' = [(a, dx, fd')] := fun a dx fd fd' => by
      unfold setW
      simp
    cases hF : C [g, m] with
    | bad => exact ⟨fun _ h => (nomatch h), fun _ h => (nomatch h)⟩
    | ok d =>
      refine ⟨fun fd h => ?_, fun _ h => (nomatch h)⟩
      cases h
      refine ⟨rfl, fun a dx => ?_⟩
      have e1 : ∀ (S : OKt), oPure (sExpr (eCall C (eCons (eVar 1) (eCons (eVar 2) eNil)))) [.val (exO a), .val g, .val m] [(a, dx, [])] S = S.nx [.val (exO a), .val g, .val m] [(a, dx, [])] := fun S => by
        show (match ofR ((eCons (eVar 1) (eCons (eVar 2) eNil) [.val (exO a), .val g, .val m]).bind C) fun _ => RS.nx [.val (exO a), .val g, .val m] with
          | .nx ρ' => S.nx ρ' [(a, dx, [])]
          | .ret d => S.rt d [(a, dx, [])]
          | .err x => lineOf x = none ∧ S.er x [(a, dx, [])]
          | _ => False) = _
        have e2 : (eCons (eVar 1) (eCons (eVar 2) eNil) [.val (exO a), .val g, .val m]).bind C = C [g, m] := rfl
        rw [e2, hF]
        rfl
      show oPure (sExpr (eCall C (eCons (eVar 1) (eCons (eVar 2) eNil)))) [.val (exO a), .val g, .val m] [(a, dx, [])] _
      rw [e1]
      have e3 : slO ([.val (exO a), .val g, .val m] : Env)[0]? = some a := asO_ex a
      have fl : ∀ (f : Str) (fe : OEx) (d : PyData) (fd : Fd) (S : OKt), fd.length < 800 → (∀ kv ke, kv d [(a, dx, fd)] → fe [.val (exO a), .val g, .val m] [(a, dx, fd)] kv ke) → S.nx [.val (exO a), .val g, .val m] [(a, dx, putD f d fd)] → oFld f 0 fe [.val (exO a), .val g, .val m] [(a, dx, fd)] S := fun f fe d fd S hl hf hn => by
        refine hf _ _ ?_
        rw [e3]
        simp only [lk]
        refine ⟨hl, ?_⟩
        rw [st]
        exact hn
      show oFld "graph" 0 (oxP (eVar 1)) [.val (exO a), .val g, .val m] [(a, dx, _)] _
      refine fl _ _ g [] _ (by decide) (fun kv ke h => h) ?_
      show oFld "marks" 0 (oxP (eVar 2)) [.val (exO a), .val g, .val m] [(a, dx, _)] _
      refine fl _ _ m _ _ (show 1 < 800 by decide) (fun kv ke h => h) ?_
      show oFld "chosen" 0 (oxP (eTup eNil)) [.val (exO a), .val g, .val m] [(a, dx, _)] _
      refine fl _ _ (.tuple []) _ _ (show 2 < 800 by decide) (fun kv ke h => h) ?_
      show oFld "kept" 0 (oxP (eC (.int 0))) [.val (exO a), .val g, .val m] [(a, dx, _)] _
      refine fl _ _ (.int 0) _ _ (show 3 < 800 by decide) (fun kv ke h => h) ?_
      exact ⟨_, rfl, rfl, rfl⟩
    | err x =>
      by_cases hx : lineOf x = none
      case neg =>
        simp only [if_neg hx]
        exact ⟨fun _ h => (nomatch h), fun _ h => (nomatch h)⟩
      simp only [if_pos hx]
      refine ⟨fun _ h => (nomatch h), fun y h => ?_⟩
      cases h
      refine ⟨hx, rfl, fun a dx => ?_⟩
      show (match ofR ((eCons (eVar 1) (eCons (eVar 2) eNil) [.val (exO a), .val g, .val m]).bind C) fun _ => RS.nx [.val (exO a), .val g, .val m] with
        | .nx ρ' => _
        | .ret d => _
        | .err x => lineOf x = none ∧ _
        | _ => False)
      have e2 : (eCons (eVar 1) (eCons (eVar 2) eNil) [.val (exO a), .val g, .val m]).bind C = C [g, m] := rfl
      rw [e2, hF]
      exact ⟨hx, [], rfl, rfl⟩
/-! ### the written part: classes -/
def clsBody : Stmt → List Stmt
  | .ClassDef _ _ _ body _ _ _ _ _ _ _ => body
  | _ => []
def dM (m q : Str) (st : Stmt) : He.DefD := ⟨("Planner", some m), m, q, defArgs st, defBody st, defScope st, [], []⟩
theorem SaysE.funM {fa : List He.Fa} {ex : PySem.W.Frag → Bool} {fn : List He.DefD} {K : PySem.W.Frag} (c : SaysE fa ex fn K) (i : Nat) {m q : Str} {st : Stmt} (h : fn[i]? = some (dM m q st) := by rfl) : ∃ fd, Fun K m q st (He.ma K (plC K) m) fd := by
  obtain ⟨fd, F⟩ := c.says.def_ i (d := dM m q st) h
  exact ⟨fd, He5.fun_of F⟩
def plB (K : PySem.W.Frag) : Bool := (He.Fa.cls "Planner").ok K && ((He.Fa.noat "Planner" "graph").ok K && ((He.Fa.noat "Planner" "marks").ok K && ((He.Fa.noat "Planner" "chosen").ok K && (He.Fa.noat "Planner" "kept").ok K)))
theorem plT_of {K : PySem.W.Frag} (h : plB K = true) : PlT K := by
  obtain ⟨h1, h⟩ := He.ba h
  obtain ⟨h2, h⟩ := He.ba h
  obtain ⟨h3, h⟩ := He.ba h
  obtain ⟨h4, h5⟩ := He.ba h
  exact ⟨He.cls_ok h1, He.noat_ok h2, He.noat_ok h3, He.noat_ok h4, He.noat_ok h5⟩
def xqB (K : PySem.W.Frag) (L Cs : List Str) : Bool := (L.all fun x => (He.Fa.glo x).ok K && (excCB K (He.ga K x) && ((Cs.all fun c => decide (PySem.W.kitOne K (.ref (He.ga K x)) (.ref (He.ga K c)) = some (x == c || c == "MarkError" || c == "ValueError"))) &&
  (decide (PySem.W.kitOne K (.ref (He.ga K x)) (.type "ValueError") = some true) && decide (PySem.W.exmOne K (.ref (He.ga K x)) (.ref (He.ga K "MarkError")) = some true))))) && ((Cs.all fun c => (He.Fa.glo c).ok K) && ((He.Fa.glo "MarkError").ok K && (He.Fa.free "ValueError").ok K))
theorem xq_of {K : PySem.W.Frag} {h : Heap} {mg : Str → Option Value} {L Cs : List Str} (X : K.In h) (G : h.Ns mainGlobals mg) (q : xqB K L Cs = true) : XQ K mg L Cs := by
  obtain ⟨q1, q⟩ := He.ba q
  obtain ⟨q2, q⟩ := He.ba q
  obtain ⟨q3, q4⟩ := He.ba q
  have gl : ∀ x ∈ L, mg x = some (.ref (He.ga K x)) := fun x hx => He.glo_ok X G (He.ba (List.all_eq_true.mp q1 x hx)).1
  have gc : ∀ c ∈ Cs, mg c = some (.ref (He.ga K c)) := fun c hc => He.glo_ok X G (List.all_eq_true.mp q2 c hc)
  have gm := He.glo_ok X G q3
  have el : ∀ x ∈ L, ca mg x = He.ga K x := fun x hx => ca_ga (gl x hx)
  have ec : ∀ c ∈ Cs, ca mg c = He.ga K c := fun c hc => ca_ga (gc c hc)
  have em := ca_ga gm
  refine ⟨fun x hx => by rw [el x hx]; exact gl x hx, fun c hc => by rw [ec c hc]; exact gc c hc, by rw [em]; exact gm, He.free_ok X G q4, fun x hx => ?_, fun x hx c hc => ?_, fun x hx => ?_, fun x hx => ?_⟩
  · rw [el x hx]
    exact excCB_ok (He.ba (He.ba (List.all_eq_true.mp q1 x hx)).2).1
  · rw [el x hx, ec c hc]
    exact of_decide_eq_true (List.all_eq_true.mp (He.ba (He.ba (He.ba (List.all_eq_true.mp q1 x hx)).2).2).1 c hc)
  · rw [el x hx]
    exact of_decide_eq_true (He.ba (He.ba (He.ba (He.ba (List.all_eq_true.mp q1 x hx)).2).2).2).1
  · rw [el x hx, em]
    exact of_decide_eq_true (He.ba (He.ba (He.ba (He.ba (List.all_eq_true.mp q1 x hx)).2).2).2).2
end DL

namespace DL
open PySem L2

/-! ### texts -/
def strsOf : List PyData → Option (List Str)
  | [] => some []
  | .str z :: ds => (strsOf ds).map (z :: ·)
  | _ :: _ => none
theorem strsOf_eq : ∀ {ds : List PyData} {zs : List Str}, strsOf ds = some zs → ds = zs.map PyData.str
  | [], _, h => by cases h; rfl
  | d :: ds, zs, h => by
    cases d with
    | str z =>
      unfold strsOf at h
      cases q : strsOf ds with
      | none => rw [q] at h; cases h
      | some ys =>
        rw [q] at h
        cases h
        rw [strsOf_eq q]
        rfl
    | _ => cases h
theorem strsOf_map : ∀ zs : List Str, strsOf (zs.map PyData.str) = some zs
  | [] => rfl
  | z :: zs => by rw [List.map_cons, strsOf, strsOf_map zs]; rfl
theorem DqAll.strs_inv {K : PySem.W.Frag} {H : Hp} : ∀ {zs : List Str} {vs : List V}, DqAll K H vs (zs.map PyData.str) → vs = zs.map V.str
  | [], _, h => by cases h; rfl
  | z :: zs, _, h => by
    rw [List.map_cons] at h
    cases h with
    | cons r t =>
      cases r
      rw [DqAll.strs_inv t]
      rfl
def fitB (zs : List Str) : Bool := decide (zs.length ≤ sizeLine) && zs.all fun z => decide (z.length ≤ sizeLine)
theorem DqAll.strs {K : PySem.W.Frag} {H : Hp} : ∀ {zs : List Str}, (∀ z ∈ zs, z.length ≤ sizeLine) → DqAll K H (zs.map V.str) (zs.map PyData.str)
  | [], _ => .nil
  | z :: zs, h => .cons (.str z (h z (by simp))) (DqAll.strs fun y hy => h y (List.mem_cons_of_mem _ hy))
/-- s.split(sep) -/
def splitD : PyData → PyData → Res PyData
  | .str a, .str b => if (b.length == 0) = false ∧ a.length + 2 ≤ sizeLine ∧ fitB (Txt.split a b) = true then .ok (.list ((Txt.split a b).map .str)) else .bad
  | _, _ => .bad
/-- sep.join(xs) -/
def joinD : PyData → PyData → Res PyData
  | .str a, .list ds => (Res.ofOpt (strsOf ds)).bind fun zs => if (zs.map (·.length)).sum + zs.length * a.length ≤ 16777216 ∧ (Txt.join a zs).length ≤ sizeLine then .ok (.str (Txt.join a zs)) else .bad
  | _, _ => .bad
/-- s.index(y), found -/
def idxSD : PyData → PyData → Res PyData
  | .str a, .str b => (match Builtin.Str.occurrences a b 0 a.length 1 with
    | k :: _ => .ok (.int (k : Nat))
    | [] => .bad)
  | _, _ => .bad
/-- {x} -/
def fmtD : PyData → Res PyData
  | .str y => .ok (.str y)
  | .int i => if i.natAbs.log2 < 1920 ∧ (toString i : Str).length ≤ sizeLine then .ok (.str (toString i)) else .bad
  | _ => .bad
section
variable {X : Cx} {mg : Str → Option Value} {E : XK} {pos apos p : Pos} {o e : Expr} {f f1 f2 : Env → Res PyData}
/-- what a text's method of one argument asks -/
theorem m1_of {mid : String} {name : Str} {r : V → List V → Hp → VK → Prop} {g : PyData → PyData → Res PyData} (slot : Slot "str" name mid) (ty : typeOf (.builtin mid) = pure (.type "method_descriptor")) (rule : MtR X mid r) (ho : PE X o (tSh X.K mg E f1)) (he : PE X e (tSh X.K mg E f2))
    (hg : ∀ x y, (∃ a, x = .str a) ∨ g x y = .bad)
    (w : ∀ (B0 B H0 H : Hp) (ρ : Env) (ts : List (V × Sl)) (σ : St) (a : Str) (y : V) (s : Sl) (Q : VK), a.length ≤ sizeLine → Nw B0 B H0 H → Slots X.K B H0 H σ ρ → (∀ p ∈ ts, SlOk X.K B H0 H p.1 p.2) → SlOk X.K B H0 H y s → s ≠ .no → (g (.str a) (dat s)).go (fun d => ∀ v H', SOk X.K B0 B ρ ((v, .val d) :: ts) σ H' → Q v H') (Rz mg E B0 B) → r (.str a) [y] H Q)
    (hne : ∀ ρ x, f1 ρ = .ok x → (∃ a, x = .str a) ∨ True)
    (hs : starEach [e] X.env = [(false, eval e X.env)]) (hbase : attributeBase o name X.env (eval o X.env) = eval o X.env) (hline : (apos.endLine == pos.line) = true) :
    PE X (.Call (.Attribute o name apos) [e] [] pos) (tD X.K mg E fun ρ => (f1 ρ).bind fun x => (match x with
      | .str a => (f2 ρ).bind fun y => g (.str a) y
      | _ => .bad)) :=
  pe_weak (pe_m1 slot ty rule ho he hs hbase hline) fun σ H Q ⟨B0, B, ρ, ts, ok, q⟩ => ⟨B0, B, ρ, ts, ok, q.go_bind.go_mono fun x kx v1 s1 H1 n1 e1 ok1 => by
    cases x with
    | str a =>
      obtain ⟨H0, n, s, t⟩ := id ok1
      obtain ⟨ev, hz⟩ := (show SlOk X.K B H0 H1 v1 s1 from t (v1, s1) (by simp)).str e1
      subst ev
      refine ⟨⟨a, rfl⟩, B0, B, ρ, _, ok1, kx.go_bind.go_mono fun y ky v2 s2 H2 n2 e2 ok2 => ?_⟩
      subst e2
      obtain ⟨H0', n', s', t'⟩ := id ok2
      exact w B0 B H0' H2 ρ ts σ a v2 s2 Q hz n' s' (fun p hp => t' p (List.mem_cons_of_mem _ (List.mem_cons_of_mem _ hp))) (t' (v2, s2) (by simp)) n2 ky
    | _ => exact kx.bad⟩
def eM1 (g : PyData → PyData → Res PyData) (f1 f2 : Env → Res PyData) : Env → Res PyData := fun ρ => (f1 ρ).bind fun x => (match x with
  | .str a => (f2 ρ).bind fun y => g (.str a) y
  | _ => .bad)
theorem d_split (ho : PE X o (tSh X.K mg E f1)) (he : PE X e (tSh X.K mg E f2)) (hs : starEach [e] X.env = [(false, eval e X.env)] := by rfl) (hbase : attributeBase o "split" X.env (eval o X.env) = eval o X.env := by rfl) (hline : (apos.endLine == pos.line) = true := by rfl) :
    PE X (.Call (.Attribute o "split" apos) [e] [] pos) (tD X.K mg E (eM1 splitD f1 f2)) :=
  m1_of PySem.F.slot_str_split PySem.F.type_str_split mt_split ho he (fun x y => by cases x <;> first | exact .inl ⟨_, rfl⟩ | exact .inr rfl) (fun B0 B H0 H ρ ts σ a y s Q hz n sl t hy ne k => by
    generalize ey : dat s = dy at k
    cases dy with
    | str b =>
      have k : (if (b.length == 0) = false ∧ a.length + 2 ≤ sizeLine ∧ fitB (Txt.split a b) = true then Res.ok (PyData.list ((Txt.split a b).map .str)) else .bad).go _ _ := k
      split at k
      · rename_i h
        obtain ⟨h1, h2, h3⟩ := h
        unfold fitB at h3
        rw [Bool.and_eq_true, decide_eq_true_eq, List.all_eq_true] at h3
        exact ⟨a, b, rfl, by rw [(hy.str ey).1], h1, h2, fun p hp => k.ok _ _ (mk_lst n sl t (DqAll.strs fun z hz => of_decide_eq_true (h3.2 z hz)) (by rw [List.length_map]; exact h3.1) hp)⟩
      · exact k.bad
    | _ => exact k.bad) (fun _ _ _ => .inr trivial) hs hbase hline
theorem d_join (ho : PE X o (tSh X.K mg E f1)) (he : PE X e (tSh X.K mg E f2)) (hs : starEach [e] X.env = [(false, eval e X.env)] := by rfl) (hbase : attributeBase o "join" X.env (eval o X.env) = eval o X.env := by rfl) (hline : (apos.endLine == pos.line) = true := by rfl) :
    PE X (.Call (.Attribute o "join" apos) [e] [] pos) (tD X.K mg E (eM1 joinD f1 f2)) :=
  m1_of PySem.F.slot_str_join PySem.F.type_str_join mt_join ho he (fun x y => by cases x <;> first | exact .inl ⟨_, rfl⟩ | exact .inr rfl) (fun B0 B H0 H ρ ts σ a y s Q hz n sl t hy ne k => by
    generalize ey : dat s = dy at k
    cases dy with
    | list ds =>
      obtain ⟨zs, hzs, k2⟩ := ofOpt_go k.go_bind
      have e := strsOf_eq hzs
      subst e
      split at k2
      · rename_i h
        obtain ⟨b, us, eb, hb, lb, db⟩ := hy.lst n.b ey
        have eu := db.strs_inv
        subst eu
        exact ⟨a, b, zs, rfl, by rw [eb], .inl (SqL.of hb), h.1, k2.ok _ _ (mk_val n sl t (.str _ h.2))⟩
      · exact k2.bad
    | _ => exact k.bad) (fun _ _ _ => .inr trivial) hs hbase hline
theorem mt_idxS : MtR X "str.index" (fun x xs H Q => ∃ (a b : Str) (k : Nat) (r : List Nat), x = .str a ∧ xs = [.str b] ∧ Builtin.Str.occurrences a b 0 a.length 1 = k :: r ∧ Q (.int (k : Nat)) H) := by
  intro pins s σ H x xs v us Q I rx rs h
  obtain ⟨a, b, k, r, rfl, rfl, q, w⟩ := h
  obtain ⟨t, rfl⟩ := rx
  cases rs with
  | cons r1 rs =>
    cases rs
    obtain ⟨u, rfl⟩ := r1
    exact PySem.SC.index q ⟨.int (k : Nat), H, I.tok _, ⟨_, rfl⟩, w⟩
theorem d_idxS (ho : PE X o (tSh X.K mg E f1)) (he : PE X e (tSh X.K mg E f2)) (hs : starEach [e] X.env = [(false, eval e X.env)] := by rfl) (hbase : attributeBase o "index" X.env (eval o X.env) = eval o X.env := by rfl) (hline : (apos.endLine == pos.line) = true := by rfl) :
    PE X (.Call (.Attribute o "index" apos) [e] [] pos) (tD X.K mg E (eM1 idxSD f1 f2)) :=
  m1_of PySem.F.slot_str_index PySem.F.type_str_index mt_idxS ho he (fun x y => by cases x <;> first | exact .inl ⟨_, rfl⟩ | exact .inr rfl) (fun B0 B H0 H ρ ts σ a y s Q hz n sl t hy ne k => by
    generalize ey : dat s = dy at k
    cases dy with
    | str b =>
      have k : (match Builtin.Str.occurrences a b 0 a.length 1 with
        | k :: _ => Res.ok (PyData.int (k : Nat))
        | [] => .bad).go _ _ := k
      cases q : Builtin.Str.occurrences a b 0 a.length 1 with
      | nil => rw [q] at k; exact k.bad
      | cons j r =>
        rw [q] at k
        exact ⟨a, b, j, r, rfl, by rw [(hy.str ey).1], q, k.ok _ _ (mk_val n sl t (.int _))⟩
    | _ => exact k.bad) (fun _ _ _ => .inr trivial) hs hbase hline
/-- for c in s -/
def iStrD (f : Env → Res PyData) : Env → Res (List PyData) := fun ρ => (f ρ).bind fun d => match d with
  | .str z => .ok (z.cps.toList.map fun c => .str ⟨#[c]⟩)
  | _ => .bad
theorem iter_str {K : PySem.W.Frag} {B0 B : Hp} {z : Str} (hz : z.length ≤ sizeLine) : Iter K B0 B [] (Its z) (z.cps.toList.map fun c => PyData.str ⟨#[c]⟩) where
  go := fun i d ρ ts σ H hi ok => by
    rw [List.getElem?_map] at hi
    cases q : z.cps.toList[i]? with
    | none => rw [q] at hi; cases hi
    | some c =>
      rw [q] at hi
      have hi : PyData.str ⟨#[c]⟩ = d := Option.some.inj hi
      subst hi
      have hlt := (List.getElem?_eq_some_iff.mp q).1
      rw [Array.length_toList] at hlt
      refine ⟨hlt, fun x H' ⟨e1, c', hc', ex⟩ => ?_⟩
      subst e1 ex
      rw [Array.getElem?_toList] at q
      rw [q] at hc'
      cases hc'
      exact ok.str (by show 1 ≤ sizeLine; decide)
  stop := fun i ρ ts σ H hi ok => by
    rw [List.length_map, Array.length_toList] at hi
    exact hi
  len := by rw [List.length_map, Array.length_toList]; exact hz
theorem i_str {tg : Expr} {b : Bool} (h : PE X e (tSh X.K mg E f)) : PI X tg e (tI X.K mg E b (iStrD f)) := pi_weak (pi_str h) fun σ H R ⟨B0, B, ρ, ts, ok, q⟩ =>
  ⟨B0, B, ρ, ts, ok, q.go_bind.go_mono fun d k v s H1 ne e ok1 => by
    cases d with
    | str z =>
      obtain ⟨H0, n, sl, t⟩ := id ok1
      obtain ⟨ev, hz⟩ := (show SlOk X.K B H0 H1 v s from t (v, s) (by simp)).str e
      subst ev
      exact ⟨z, rfl, k.ok _ H1 [] ok1.drop (fun _ p hp => nomatch hp) fun _ _ => iter_str hz⟩
    | _ => exact k.bad⟩
/-! f-strings -/
def eFmt (f : Env → Res PyData) : Env → Res PyData := fun ρ => (f ρ).bind fmtD
theorem d_fmt (he : PE X e (tD X.K mg E f)) : PE X (.FormattedValue e (-1) none pos) (tD X.K mg E (eFmt f)) := pe_weak (pe_fmt he) fun σ H Q ⟨B0, B, ρ, ts, ok, q⟩ =>
  ⟨B0, B, ρ, ts, ok, q.go_bind.go_mono fun d k v H1 ok1 => by
    obtain ⟨H0, n, s, t⟩ := id ok1
    have z : SlOk X.K B H0 H1 v (.val d) := t (v, .val d) (by simp)
    cases d with
    | str y =>
      obtain ⟨ev, hz⟩ := z.str rfl
      exact .inl ⟨y, ev, hz, k.ok _ _ (ok1.drop.str hz)⟩
    | int i =>
      have k : (if i.natAbs.log2 < 1920 ∧ (toString i : Str).length ≤ sizeLine then Res.ok (PyData.str (toString i)) else .bad).go _ _ := k
      split at k
      · rename_i h
        exact .inr ⟨i, z.int rfl, h.1, k.ok _ _ (ok1.drop.str h.2)⟩
      · exact k.bad
    | _ => exact k.bad⟩
def eJs : List (Env → Res PyData) → Str → Env → Res PyData
  | [], acc, _ => .ok (.str acc)
  | f :: fs, acc, ρ => (f ρ).bind fun d => match d with
    | .str y => if (acc ++ y).length ≤ sizeLine then eJs fs (acc ++ y) ρ else .bad
    | _ => .bad
def eJoined (fs : List (Env → Res PyData)) : Env → Res PyData := eJs fs Str.empty
inductive PJD (X : Cx) (mg : Str → Option Value) (E : XK) : List Expr → List (Env → Res PyData) → Prop where
  | nil : PJD X mg E [] []
  | cons {e : Expr} {f : Env → Res PyData} {es : List Expr} {fs : List (Env → Res PyData)} (h : PE X e (tD X.K mg E f)) (r : PJD X mg E es fs) : PJD X mg E (e :: es) (f :: fs)
theorem PJD.pj {es : List Expr} {fs : List (Env → Res PyData)} (h : PJD X mg E es fs) : PJ X es (fs.map (tD X.K mg E)) := by
  induction h with
  | nil => exact .nil
  | cons h r ih => exact .cons h ih
theorem js_go {σ : St} {Q : VK} {B0 B : Hp} {ρ : Env} {ts : List (V × Sl)} : ∀ (fs : List (Env → Res PyData)) (acc : Str) (H : Hp), acc.length ≤ sizeLine → SOk X.K B0 B ρ ts σ H → (eJs fs acc ρ).go (fun d => ∀ v H', SOk X.K B0 B ρ ((v, .val d) :: ts) σ H' → Q v H') (Rz mg E B0 B) →
    tJs (fs.map (tD X.K mg E)) acc σ H fun out H1 => Q (.str out) H1
  | [], acc, H, hz, ok, k => k.ok _ _ (ok.str hz)
  | f :: fs, acc, H, hz, ok, k => ⟨B0, B, ρ, ts, ok, (show ((f ρ).bind _).go _ _ from k).go_bind.go_mono fun d kd v H1 ok1 => by
      cases d with
      | str y =>
        obtain ⟨H0, n, s, t⟩ := id ok1
        obtain ⟨ev, _⟩ := (show SlOk X.K B H0 H1 v (.val (.str y)) from t (v, .val (.str y)) (by simp)).str rfl
        have kd : (if (acc ++ y).length ≤ sizeLine then eJs fs (acc ++ y) ρ else .bad).go _ _ := kd
        split at kd
        · rename_i h
          exact ⟨y, ev, h, js_go fs (acc ++ y) H1 h ok1.drop kd⟩
        · exact kd.bad
      | _ => exact kd.bad⟩
theorem d_joined {v1 v2 : Expr} {rest : List Expr} {fs : List (Env → Res PyData)} (h : PJD X mg E (v1 :: v2 :: rest) fs) : PE X (.JoinedStr (v1 :: v2 :: rest) pos) (tD X.K mg E (eJoined fs)) :=
  pe_weak (pe_joined h.pj) fun σ H Q ⟨B0, B, ρ, ts, ok, q⟩ => js_go fs Str.empty H (Nat.zero_le _) ok q
end

/-! ### ParseError(line) -/
/-- what the written part says of it -/
structure PeT (K : PySem.W.Frag) (mg : Str → Option Value) : Prop where
  oc : OexC K (ca mg "ParseError")
  no : PySem.W.findIn K (.ref (ca mg "ParseError")) "line" = some none
  xf : XfC K (ca mg "ParseError")
  gP : mg "ParseError" = some (.ref (ca mg "ParseError"))
  gM : mg "MarkError" = some (.ref (ca mg "MarkError"))
  rd : PySem.W.readsIn K (ca mg "MarkError") (.type "type") = true
  ga : PySem.W.specialIn K (.ref (ca mg "MarkError")) "__getattribute__" = some (some (.builtin "type.__getattribute__"))
  mi : PySem.W.findCls K (.ref (ca mg "MarkError")) (.type "type") "__init__" = some (.val (.builtin "ValueError.__init__"))
def spPE (K : PySem.W.Frag) (C : Addr) : Sp := fun vs H Q _ => ∃ (a : Addr) (v : V), vs = [.ref a, v] ∧ H a = some (exo a C none) ∧ ∀ dx, H dx = none → dx ≠ a → Q .non (upd (upd H dx (exd dx [("line", v)])) a (exo a C (some dx)))
section
open PySem.Spec PyProof.Rows
variable {X : Cx} {E : XK} {pos p p1 p2 q : Pos} {e : Expr} {es : List Expr} {f : Env → Res PyData}
/-- MarkError.__init__(self, ..) -/
theorem pe_meinit {ta : TA} {pl : Sem Bool} (T : PeT X.K X.mg) (hg : Gl X "MarkError") (ha : PA X (e :: es) ta)
    (hc : eval (.Call (.Attribute (.Name "MarkError" p1) "__init__" p2) (e :: es) [] pos) X.env = (do let ov ← eval (.Name "MarkError" p1) X.env; standAt p2.atName; let (f, first) ← holding [ov] (getMethod ov "__init__" pl); callWith pos f first (backTo pos (starEach (e :: es) X.env)) (backToKw pos (keywordEach [] X.env))) := by rfl)
    (he : starEach (e :: es) X.env = (false, eval e X.env) :: starEach es X.env := by rfl) (hpl : (backTo pos (starEach es X.env)).any (·.1) = false := by rfl) :
    PE X (.Call (.Attribute (.Name "MarkError" p1) "__init__" p2) (e :: es) [] pos) (tVeI X.K ta) := by
  refine ⟨fun pins s σ H Q I h => ?_⟩
  refine PySem.W.methodCall_KW (ld_glob I hg T.gM ?_ (by decide)) hc
  refine PySem.W.method_cls I.kIn T.ga (PySem.W.cls_value I.kIn T.rd T.mi (by decide +kernel) ?_)
  show wpAny _ _ (callWith pos (Value.builtin "ValueError.__init__") [] (backTo pos (starEach (e :: es) X.env)) []) _ _ _
  refine PyProof.Rows.callWith_method1 (thn (ha.run pos pins _ σ H _ (I.tok _) h) fun us s1 ⟨vs, H1, I1, r1, a, C, ws, ev, hl, OT, ea, qq⟩ => ?_) he hpl
  subst ev
  cases r1 with
  | @cons _ u0 _ ur ra rw' =>
    obtain rfl : u0 = Value.ref a := ra
    exact oinit_ok OT I1 ea (by rw [← Paired.length rw', sizeLine_eq]; omega) fun s' J => ⟨.non, H1, J, rfl, qq⟩
end
section
variable {P : Program} {w : World} {K : PySem.W.Frag} {mg : Str → Option Value} {base : Heap} {X : Cx} {E : XK} {pos p p2 q : Pos} {e : Expr} {f : Env → Res PyData}
structure CalP (P : Program) (w : World) (K : PySem.W.Frag) (mg : Str → Option Value) (base : Heap) (k : Nat) : Prop where
  ex : ∃ (f : Addr) (fd : FuncData), FnOk P w K mg base (L2.CX P w) k f fd ["self", "line"] (spPE K (ca mg "ParseError")) ∧ PySem.W.findIn K (.ref (ca mg "ParseError")) "__init__" = some (some (.ref f)) ∧ PySem.W.typeIn K (.ref f) = some (.type "function") ∧ Binds K fd ["self", "line"] []
theorem CalP.mono {j k : Nat} (C : CalP P w K mg base j) (h : j ≤ k) : CalP P w K mg base k := let ⟨f, fd, G, r⟩ := C.ex; ⟨f, fd, G.mono h, r⟩
def sRaiseP (f : Env → Res PyData) : Env → RS := fun ρ => match f ρ with
  | .ok .none => .err (peX 0)
  | .ok (.int n) => if 0 ≤ n then .err (peX (n.toNat + 1)) else .bad
  | _ => .bad
theorem pe_heap {H : Hp} {a dx C : Addr} {v : V} (hn : H a = none) (hd : upd H a (exo a C none) dx = none) (ne : dx ≠ a) :
    upd (del (upd (upd (upd H a (exo a C none)) dx (exd dx [("line", v)])) a (exo a C (some dx))) a) dx (.xd [("line", v)]) = upd H dx (.xd [("line", v)]) := by
  funext b
  by_cases hb : b = dx
  · subst hb; rw [upd_same, upd_same]
  · rw [upd_ne hb, upd_ne hb]
    by_cases ha : b = a
    · subst ha; rw [del_same, hn]
    · rw [del_ne ha, upd_ne ha, upd_ne hb, upd_ne ha]
theorem s_raiseP {k : Nat} (hc : X.calm = true) (T : PeT X.K X.mg) (G : CalP X.prog X.w X.K X.mg X.base k) (hr : Room (k + 1) X.A) (tk : Takes X (fun cls d _ H => E cls d H)) (hg : Gl X "ParseError") (he : PE X e (tD X.K X.mg E f))
    (hs : starEach [e] X.env = (false, eval e X.env) :: starEach [] X.env := by rfl) (hpl : (backTo pos (starEach [] X.env)).any (·.1) = false := by rfl) :
    PS X (.Raise (some (.Call (.Name "ParseError" p) [e] [] pos)) none q) (tS X.K X.mg E (sRaiseP f)) := by
  obtain ⟨fn, fd, Fk, iC, tI, hb⟩ := G.ex
  refine ps_weak (ps_raise hc tk (pmk_oex (CX := L2.CX X.prog X.w) T.oc iC tI Fk hr hb .nil (passL) hg T.gP (pa_cons he pa_nil hs) (by decide) hs hpl)) fun D σ H ⟨B0, B, ρ, ts, ok, av, kk⟩ => ?_
  have kk := kk.out
  unfold sRaiseP at kk
  have fin : ∀ (l : Nat) (d : PyData), f ρ = .ok d → (∀ H0 v, Dq X.K H0 v d → v = lineV l) → Rz X.mg E B0 B (peX l) → _ := fun l d hf hl rz => by
    refine (show tMkO (ca X.mg "ParseError") (spPE X.K (ca X.mg "ParseError")) [] (tCons (tD X.K X.mg E f) tNil) σ H fun cls d H' => E cls d H' from ⟨B0, B, ρ, ts, ok, go_of hf fun v H1 ok1 => ?_⟩)
    obtain ⟨H0, n, s, t⟩ := id ok1
    have ev := hl H0 v (t (v, .val d) (by simp))
    subst ev
    refine ⟨by show 1 ≤ 1000; decide, fun a ha => ⟨a, lineV l, rfl, upd_same, fun dx hdx ne => ⟨rfl, dx, [("line", lineV l)], upd_same, by rw [upd_ne ne, upd_same], by rw [upd_ne ne] at hdx; exact hdx, ?_⟩⟩⟩
    rw [pe_heap ha hdx ne]
    rw [upd_ne ne] at hdx
    have al : Nw H0 H1 (upd H0 dx (.xd [("line", lineV l)])) (upd H1 dx (.xd [("line", lineV l)])) := (Nw.refl n.b).alloc hdx
    exact rz.lined (lineOf_pe l) _ _ dx (n.trans al) upd_same
  cases hf : f ρ with
  | err x => rw [hf] at kk; exact kk.elim
  | bad => rw [hf] at kk; exact kk.elim
  | ok d =>
    rw [hf] at kk
    cases d with
    | none => exact fin 0 _ hf (fun H0 v h => by cases h; rfl) kk
    | int m =>
      by_cases h0 : 0 ≤ m
      · simp only [if_pos h0] at kk
        refine fin (m.toNat + 1) _ hf (fun H0 v h => ?_) kk
        cases h
        show V.int m = V.int ((m.toNat : Nat) : Int)
        rw [Int.toNat_of_nonneg h0]
      · simp only [if_neg h0] at kk
        exact kk.elim
    | _ => exact kk.elim
end

/-! ### try: .. except M as n: return .. -/
def retR : RS → RS
  | .ret d => .ret d
  | _ => .bad
def blank (i n : Nat) (d : PyData) : Env := (List.replicate n Sl.no).set i (.val d)
def sTryY (i n : Nat) (L : List Str) (S : Env → RS) (S2 : Addr → Addr → Str → Env → RS) : Env → RS := fun ρ => match S ρ with
  | .err x => if L.contains (baseN x) = true then retR (S2 0 0 x (blank i n (exD 0 0 x))) else .bad
  | r => r
section
variable {X : Cx} {E : XK} {n M : Str} {i m : Nat} {np ps pos : Pos} {body : List Stmt} {b₀ : Stmt} {su : List Stmt} {L : List Str} {S : Env → RS} {S2 : Addr → Addr → Str → Env → RS}
theorem blank_ok {K : PySem.W.Frag} {B0 B H0 H : Hp} {σ : St} {a dd : Addr} {x : Str} (nw : Nw B0 B H0 H) (hl : σ.length = m) (hi : i < m) (hd : ∀ l, lineOf x = some l → H0 dd = some (.xd [("line", lineV l)])) : SOk K B0 B (blank i m (exD a dd x)) [] (σ.set i (some (.ref a))) H := by
  unfold blank
  refine ⟨H0, nw, ⟨by rw [List.length_set, List.length_set, List.length_replicate, hl], fun j s e ne => ?_, fun j k ds es b hjk ej => ?_⟩, fun p hp => nomatch hp⟩
  · by_cases hj : i = j
    · subst hj
      rw [List.getElem?_set, if_pos rfl, if_pos (by rw [List.length_replicate]; exact hi)] at e
      cases e
      exact ⟨.ref a, by rw [List.getElem?_set, if_pos rfl, if_pos (by rw [hl]; exact hi)], Dq.exc a dd x hd⟩
    · rw [List.getElem?_set, if_neg hj, List.getElem?_replicate] at e
      split at e
      · cases e; exact absurd rfl ne
      · cases e
  · by_cases hj : i = j
    · subst hj
      rw [List.getElem?_set, if_pos rfl] at ej
      split at ej <;> cases ej
    · rw [List.getElem?_set, if_neg hj, List.getElem?_replicate] at ej
      split at ej <;> cases ej
theorem s_tryY (stk : X.stack = X.env :: X.outer) (frm : X.env.frame = some X.env.locals) (nd : X.N.Nodup) (hi : X.N[i]? = some n) (hm : X.N.length = m) (hln : X.env.kindOf n = some .local) (tk : Takes X (fun cls d _ H => E cls d H))
    (gM : X.mg M = some (.ref (ca X.mg M))) (nm : Gl X M) (em : ∀ x ∈ L, PySem.W.exmOne X.K (.ref (ca X.mg x)) (.ref (ca X.mg M)) = some true)
    (hb : ∀ (E' : XK) (pn : List (Addr × Obj)) (xe : Value → Shared → Prop), Takes (X.tr pn xe) (fun cls d _ H => E' cls d H) → PassesOwn (model X.prog X.w) X.A X.env xe → PSs (X.tr pn xe) body (tS X.K X.mg E' S))
    (hs : ∀ (a : Addr) (oe : Obj) (x : Str) (dd : Addr) (pn : List (Addr × Obj)), baseN x ∈ L → Zc (.ref (ca X.mg (baseN x))) (dOf x dd) oe → (∃ vs, oe.data = .fields vs) → PSs (X.suite a ((a, oe) :: pn)) (b₀ :: su) (tS X.K X.mg E (S2 a dd x)))
    (hA : ∀ (a dd : Addr) (x : Str), retR (S2 a dd x (blank i m (exD a dd x))) = retR (S2 0 0 x (blank i m (exD 0 0 x))))
    (hdb : (M == ("__debug__" : Str)) = false := by decide) :
    PS X (.Try body [.ExceptHandler (some (.Name M np)) (some n) (b₀ :: su) ps] [] [] pos) (tS X.K X.mg E (sTryY i m L S S2)) := by
  let ts : Sui := fun a cls d D σ H => ∃ (x : Str) (dd : Addr), cls = .ref (ca X.mg (baseN x)) ∧ d = dOf x dd ∧ baseN x ∈ L ∧ tS X.K X.mg E (S2 a dd x) D σ H
  have hh : Cls3 X n [.ExceptHandler (some (.Name M np)) (some n) (b₀ :: su) ps] [(.ref (ca X.mg M), ts)] := .cons ⟨nm, hdb, .inl gM⟩ (fun a oe cls d pn hz hf => ⟨fun pins s σ H D I h => by
    obtain ⟨x, dd, e1, e2, hx, h⟩ := h
    subst e1 e2
    exact (hs a oe x dd pn hx hz hf).run pins s σ H D I h⟩) .nil
  have him : i < m := by rw [← hm]; exact (List.getElem?_eq_some_iff.mp hi).1
  refine ps_weak (try_all (tb := fun W => tS X.K X.mg (EW X.N.length W) S) stk frm nd hi hln tk (fun W pn xe t po => hb _ pn xe (takes_EW (X := X.tr pn xe) t) po) hh) fun D σ H ⟨B0, B, ρ, ts', ok, av, q⟩ => ⟨B0, B, ρ, ts', ok, av, ⟨?_⟩⟩
  have q := q.out
  unfold sTryY at q
  cases hS : S ρ with
  | err x =>
    simp only [hS] at q
    by_cases hc : L.contains (baseN x) = true
    · rw [if_pos hc] at q
      have hx : baseN x ∈ L := by simpa using hc
      have go : ∀ (a dd : Addr), RS.go X.K X.mg E B0 B [] (cutE i D) (S2 a dd x (blank i m (exD a dd x))) := fun a dd => by
        have g := hA a dd x
        have q2 := q
        rw [← g] at q2
        refine ⟨?_⟩
        cases hr : S2 a dd x (blank i m (exD a dd x)) with
        | ret d => rw [hr] at q2; exact q2
        | nx ρ' => rw [hr] at q2; exact q2.elim
        | brk ρ' => rw [hr] at q2; exact q2.elim
        | cnt ρ' => rw [hr] at q2; exact q2.elim
        | err x' => rw [hr] at q2; exact q2.elim
        | bad => rw [hr] at q2; exact q2.elim
      refine Rz.of (fun hl H0 H' nw σ' hlen => ?_) fun l hl H0 H' dd nw hd σ' hlen => ?_
      · have e1 := baseN_plain hl
        refine ⟨true, by rw [← e1]; exact em _ hx, fun _ a ha' => ⟨x, 0, by rw [e1], by unfold dOf; rw [hl]; rfl, hx, B0, B, _, [], blank_ok nw (hlen.trans hm) him (fun l' z => by rw [hl] at z; cases z), (fun p hp => nomatch hp), go a 0⟩, fun z => nomatch z⟩
      · have e1 := baseN_line hl
        refine ⟨true, by rw [← e1]; exact em _ hx, fun _ a ha' => ⟨x, dd, by rw [e1], by unfold dOf; rw [hl]; rfl, hx, B0, B, _, [], blank_ok nw (hlen.trans hm) him (fun l' z => by rw [hl] at z; cases z; exact hd), (fun p hp => nomatch hp), go a dd⟩, fun z => nomatch z⟩
    · rw [if_neg hc] at q
      exact q.elim
  | nx ρ' => simp only [hS] at q; exact q
  | ret d => simp only [hS] at q; exact q
  | brk ρ' => simp only [hS] at q; exact q
  | cnt ρ' => simp only [hS] at q; exact q
  | bad => simp only [hS] at q; exact q
end
end DL

namespace DL
open PySem L2

/-! ### the written part: ParseError -/
def oexB (K : PySem.W.Frag) (C : Addr) : Bool := match K.lookup C with
  | some ⟨.type "type", _, .cls cd, sl⟩ => (match cd.mro, sl.toList with
    | .ref C' :: bm, [_, _, _, _, some (.builtin m), _] => C' == C && (m == "ValueError.__new__" && (!cd.hasDel && (cd.hasDict && PySem.HandSPX.refsVE bm)))
    | _, _ => false)
  | _ => false
theorem oex_cls {K : PySem.W.Frag} {C : Addr} (h : oexB K C = true) : ∃ nm q N bs bm sn sub ab col dd k0 k1 k2 k3 k5, K.lookup C = some (excClassObj nm q C N bs bm true sn sub ab col dd k0 k1 k2 k3 k5 "ValueError.__new__") ∧ PySem.HandSPX.refsVE bm = true := by
  unfold oexB at h
  split at h
  · rename_i dd cd sl ho
    split at h
    · rename_i C' bm k0 k1 k2 k3 m k5 hm hs
      simp only [Bool.and_eq_true, beq_iff_eq, Bool.not_eq_true'] at h
      obtain ⟨rfl, rfl, hdel, hdict, hve⟩ := h
      obtain ⟨nm, bs, mro, ns, qn, hd, sn, sub, ab, col, dl⟩ := cd
      dsimp only at hm hdel hdict
      subst hm hdel hdict
      obtain ⟨l⟩ := sl
      simp only at hs
      subst hs
      exact ⟨nm, qn, ns, bs, bm, sn, sub, ab, col, dd, k0, k1, k2, k3, k5, ho, hve⟩
    · cases h
  · cases h
def peB (K : PySem.W.Frag) : Bool := oexB K (He.ga K "ParseError") && (He.eqO (PySem.W.findIn K (.ref (He.ga K "ParseError")) "__setattr__") (some (some (.builtin "object.__setattr__"))) && (decide (PySem.W.subIn K (.ref (He.ga K "ParseError")) (.type "BaseException") = some true) &&
  (decide (PySem.W.typeIn K (.ref (He.ga K "ParseError")) = some (.type "type")) && (PySem.W.keepIn K (.ref (He.ga K "ParseError")) && (He.eqO (PySem.W.findIn K (.ref (He.ga K "ParseError")) "line") (some none) && (xfB K (He.ga K "ParseError") &&
  ((He.Fa.glo "ParseError").ok K && ((He.Fa.glo "MarkError").ok K && (PySem.W.readsIn K (He.ga K "MarkError") (.type "type") && (He.eqO (PySem.W.specialIn K (.ref (He.ga K "MarkError")) "__getattribute__") (some (some (.builtin "type.__getattribute__"))) &&
  ((match PySem.W.findCls K (.ref (He.ga K "MarkError")) (.type "type") "__init__" with
    | some (.val (.builtin y)) => y == "ValueError.__init__"
    | _ => false) && (He.eqO (PySem.W.findIn K (.ref (He.ga K "ParseError")) "__init__") (some (some (.ref (He.ma K (He.ga K "ParseError") "__init__")))) && (decide (PySem.W.typeIn K (.ref (He.ma K (He.ga K "ParseError") "__init__")) = some (.type "function")) &&
    decide (PySem.W.exmOne K (.ref (He.ga K "ParseError")) (.ref (He.ga K "ParseError")) = some true))))))))))))))
theorem pe_of {K : PySem.W.Frag} {h : Heap} {mg : Str → Option Value} (X : K.In h) (G : h.Ns mainGlobals mg) (q : peB K = true) : PeT K mg ∧ PySem.W.findIn K (.ref (ca mg "ParseError")) "__init__" = some (some (.ref (He.ma K (He.ga K "ParseError") "__init__"))) ∧
    PySem.W.typeIn K (.ref (He.ma K (He.ga K "ParseError") "__init__")) = some (.type "function") ∧ PySem.W.exmOne K (.ref (ca mg "ParseError")) (.ref (ca mg "ParseError")) = some true := by
  obtain ⟨q1, q⟩ := He.ba q
  obtain ⟨q2, q⟩ := He.ba q
  obtain ⟨q3, q⟩ := He.ba q
  obtain ⟨q4, q⟩ := He.ba q
  obtain ⟨q5, q⟩ := He.ba q
  obtain ⟨q6, q⟩ := He.ba q
  obtain ⟨q7, q⟩ := He.ba q
  obtain ⟨q8, q⟩ := He.ba q
  obtain ⟨q9, q⟩ := He.ba q
  obtain ⟨q10, q⟩ := He.ba q
  obtain ⟨q11, q⟩ := He.ba q
  obtain ⟨q12, q⟩ := He.ba q
  obtain ⟨q13, q⟩ := He.ba q
  obtain ⟨q14, q15⟩ := He.ba q
  have g1 := He.glo_ok X G q8
  have g2 := He.glo_ok X G q9
  have e1 := ca_ga g1
  have e2 := ca_ga g2
  have mi : PySem.W.findCls K (.ref (He.ga K "MarkError")) (.type "type") "__init__" = some (.val (.builtin "ValueError.__init__")) := by
    split at q12
    · rename_i y hy
      rw [hy, eq_of_beq q12]
    · cases q12
  rw [e1]
  refine ⟨⟨?_, ?_, ?_, ?_, ?_, ?_, ?_, ?_⟩, He.eqO_ok q13, of_decide_eq_true q14, of_decide_eq_true q15⟩
  · rw [e1]; exact ⟨oex_cls q1, He.eqO_ok q2, of_decide_eq_true q3, of_decide_eq_true q4, q5⟩
  · rw [e1]; exact He.eqO_ok q6
  · rw [e1]; exact xfB_ok q7
  · rw [e1]; exact g1
  · rw [e2]; exact g2
  · rw [e2]; exact q10
  · rw [e2]; exact He.eqO_ok q11
  · rw [e2]; exact mi
def dP (st : Stmt) : He.DefD := ⟨("ParseError", some "__init__"), "__init__", "ParseError.__init__", defArgs st, defBody st, defScope st, [], []⟩
theorem SaysE.funP {fa : List He.Fa} {ex : PySem.W.Frag → Bool} {fn : List He.DefD} {K : PySem.W.Frag} (c : SaysE fa ex fn K) (i : Nat) {st : Stmt} (h : fn[i]? = some (dP st) := by rfl) : ∃ fd, Fun K "__init__" "ParseError.__init__" st (He.ma K (He.ga K "ParseError") "__init__") fd := by
  obtain ⟨fd, F⟩ := c.says.def_ i (d := dP st) h
  exact ⟨fd, He5.fun_of F⟩
end DL

namespace DL
open PySem L2

/-! ### objects frozen for the time of an expression -/
/-- some slots name objects: they hold the objects' data -/
structure Fz (ws : Os) (ρ ρ' : Env) : Prop where
  len : ρ'.length = ρ.length
  at_ : ∀ (i : Nat) (s : Sl), ρ'[i]? = some s → ρ[i]? = some s ∨ ∃ a fd, slO ρ[i]? = some a ∧ lkO a ws = some fd ∧ s = .val (obD "Planner" fd)
theorem Fz.refl (ws : Os) (ρ : Env) : Fz ws ρ ρ := ⟨rfl, fun _ _ h => .inl h⟩
def fz1 (i : Nat) (ws : Os) (ρ0 ρ : Env) : Env := match slO ρ0[i]? with
  | some a => (match lkO a ws with
    | some fd => ρ.set i (.val (obD "Planner" fd))
    | none => ρ)
  | none => ρ
theorem Fz.step {ws : Os} {ρ ρ' : Env} (h : Fz ws ρ ρ') (i : Nat) : Fz ws ρ (fz1 i ws ρ ρ') := by
  unfold fz1
  cases h1 : slO ρ[i]? with
  | none => exact h
  | some a =>
    simp only
    cases h2 : lkO a ws with
    | none => exact h
    | some fd =>
      refine ⟨by rw [List.length_set]; exact h.len, fun j s e => ?_⟩
      by_cases q : i = j
      · subst q
        rw [List.getElem?_set, if_pos rfl] at e
        split at e
        · cases e; exact .inr ⟨a, fd, h1, h2, rfl⟩
        · cases e
      · rw [List.getElem?_set, if_neg q] at e
        exact h.at_ j s e
/-- the slots is hold objects -/
def fz (is : List Nat) (ρ : Env) (ws : Os) : Env := is.foldl (fun ρ' i => fz1 i ws ρ ρ') ρ
theorem fz_ok (is : List Nat) (ρ : Env) (ws : Os) : Fz ws ρ (fz is ρ ws) := by
  unfold fz
  suffices h : ∀ ρ', Fz ws ρ ρ' → Fz ws ρ (is.foldl (fun ρ' i => fz1 i ws ρ ρ') ρ') from h ρ (Fz.refl ws ρ)
  induction is with
  | nil => exact fun ρ' h => h
  | cons i is ih => exact fun ρ' h => ih _ (h.step i)
def ownB (ρ : Env) : Bool := ρ.all fun s => match s with
  | .own ds => PyData.plainAll ds
  | _ => true
section
variable {K : PySem.W.Frag} {mg : Str → Option Value} {E : XK} {B0 B Bp H0 H H' : Hp} {os : List Ob} {ρ ρ' : Env} {ts : List (V × Sl)} {σ : St}
/-- the heap without the objects -/
def offO (os : List Ob) (H : Hp) : Hp := fun p => if p ∈ os.map (·.a) then none else H p
def onO (K : PySem.W.Frag) (os : List Ob) (H : Hp) : Hp := fun p => match os.find? fun o => o.a == p with
  | some o => some (.ins (plC K) o.dx o.fs)
  | none => H p
theorem offO_ne {p : Addr} (h : p ∉ os.map (·.a)) : offO os H p = H p := if_neg h
theorem onO_ne {p : Addr} (h : p ∉ os.map (·.a)) : onO K os H p = H p := by
  unfold onO
  rw [show (os.find? fun o => o.a == p) = none from List.find?_eq_none.mpr fun o ho q => h (List.mem_map.mpr ⟨o, ho, eq_of_beq q⟩)]
theorem onO_at (n : ObH K B os Bp) {o : Ob} (ho : o ∈ os) : onO K os H o.a = some (.ins (plC K) o.dx o.fs) := by
  unfold onO
  cases q : os.find? fun x => x.a == o.a with
  | none => exact absurd (List.find?_eq_none.mp q o ho) (by simp)
  | some x =>
    have h1 := List.mem_of_find?_eq_some q
    have h2 := List.find?_some q
    rw [n.same ho h1 (eq_of_beq h2)]
mutual
theorem Dq.thinA {H1 : Hp} (h : ∀ a, a ∈ os.map (·.a) → ∃ dx fs, H1 a = some (.ins (plC K) dx fs)) : ∀ {v : V} {d : PyData}, Dq K H1 v d → d.plain = true → Dq K (offO os H1) v d
  | _, _, .non, _ => .non
  | _, _, .bl b, _ => .bl b
  | _, _, .int i, _ => .int i
  | _, _, .str x l, _ => .str x l
  | _, _, .lst (a := a) q l all, p => .lst (by rw [offO_ne fun z => by obtain ⟨dx, fs, e⟩ := h a z; rw [e] at q; cases q]; exact q) l (DqAll.thinA h all (by simpa [PyData.plain] using p))
  | _, _, .tup (a := a) q l all, p => by
    refine .tup ?_ l (DqAll.thinA h all (by simpa [PyData.plain] using p))
    obtain ⟨o, d, e⟩ := q
    exact ⟨o, d, by rw [offO_ne fun z => by obtain ⟨dx, fs, e'⟩ := h a z; rw [e'] at e; cases e]; exact e⟩
  | _, _, .scr ns _, p => by simp [scrD, PyData.plain] at p
  | _, _, .pair _ _ _, p => by simp [pr2, PyData.plain] at p
  | _, _, .obj _ _ _ _ _, p => by simp [obD, PyData.plain] at p
  | _, _, .exc _ _ _ _, p => by simp [exD, PyData.plain] at p
theorem DqAll.thinA {H1 : Hp} (h : ∀ a, a ∈ os.map (·.a) → ∃ dx fs, H1 a = some (.ins (plC K) dx fs)) : ∀ {vs : List V} {ds : List PyData}, DqAll K H1 vs ds → PyData.plainAll ds = true → DqAll K (offO os H1) vs ds
  | _, _, .nil, _ => .nil
  | _, _, .cons r t, p => by
    rw [PyData.plainAll, Bool.and_eq_true] at p
    exact .cons (Dq.thinA h r p.1) (DqAll.thinA h t p.2)
end
theorem OOk.frozen (h : OOk K B0 B os ρ ts σ H) (ho : ownB ρ = true) (hf : Fz (obV os) ρ ρ') : ∃ Bp H1, SOk K H1 Bp ρ' ts σ H ∧
    (∀ H1' H', Nw H1 Bp H1' H' → ∃ H0', OH K B0 B os H0' H' ∧ ∀ v d, d.plain = true → Dq K H1' v d → Dq K H0' v d) ∧
    ∀ us H', (∀ p ∈ us, ∃ d, p.2 = Sl.val d ∧ d.plain = true) → SOk K H1 Bp ρ' (us ++ ts) σ H' → OOk K B0 B os ρ (us ++ ts) σ H' := by
  obtain ⟨Bp, H0, n, ex, av, nw, s, f, t, z⟩ := h.parts
  have e01 : Ex H0 (onO K os H0) := fun p u hp => by
    rw [onO_ne fun q => by obtain ⟨o, ho, e⟩ := List.mem_map.mp q; rw [← e, (z o ho).1] at hp; cases hp]
    exact hp
  have lstn : ∀ {a xs}, H a = some (.lst xs) → a ∉ os.map (·.a) := fun {a xs} ha q => by
    obtain ⟨o, ho, e⟩ := List.mem_map.mp q
    rw [← e, nw.c _ _ (n.at_ o ho).1] at ha
    cases ha
  have nw1 : Nw (onO K os H0) Bp (onO K os H0) H := ⟨Ex.refl _, fun p u hp => by
    by_cases q : p ∈ os.map (·.a)
    · obtain ⟨o, ho, e⟩ := List.mem_map.mp q
      subst e
      rw [onO_at n ho] at hp
      rw [← hp]
      exact nw.c _ _ (n.at_ o ho).1
    · rw [onO_ne q] at hp
      exact nw.b p u hp, nw.c, fun _ _ q => .inl q⟩
  have back : ∀ {H1' H'}, Nw (onO K os H0) Bp H1' H' → Nw B0 Bp (offO os H1') H' ∧ Ex H0 (offO os H1') ∧ ∀ a, a ∈ os.map (·.a) → ∃ dx fs, H1' a = some (.ins (plC K) dx fs) := fun {H1' H'} m => by
    have e0 : Ex H0 (offO os H1') := fun p u hp => by
      rw [offO_ne fun q => by obtain ⟨o, ho, e⟩ := List.mem_map.mp q; rw [← e, (z o ho).1] at hp; cases hp]
      exact m.a _ _ (e01 _ _ hp)
    refine ⟨⟨nw.a.trans e0, fun p u hp => ?_, m.c, fun p u hp => ?_⟩, e0, fun a ha => ?_⟩
    · by_cases q : p ∈ os.map (·.a)
      · unfold offO at hp; rw [if_pos q] at hp; cases hp
      · rw [offO_ne q] at hp; exact m.b p u hp
    · by_cases q : p ∈ os.map (·.a)
      · unfold offO at hp; rw [if_pos q] at hp; cases hp
      · rw [offO_ne q] at hp
        rcases m.d p u hp with w | w
        · rw [onO_ne q] at w; exact nw.d p u w
        · exact .inr w
    · obtain ⟨o, ho, e⟩ := List.mem_map.mp ha
      subst e
      exact ⟨o.dx, o.fs, m.a _ _ (onO_at n ho)⟩
  refine ⟨Bp, onO K os H0, ⟨onO K os H0, nw1, ⟨by rw [s.len, hf.len], fun i sl e ne => ?_, fun i j ds es a hij ei ej => ?_⟩, fun p hp => ?_⟩, fun H1' H' m => ?_, fun us H' hu ok => ?_⟩
  · rcases hf.at_ i sl e with e1 | ⟨a, fd, h1, h2, h3⟩
    · obtain ⟨v, ev, q⟩ := s.at_ i sl e1 ne
      refine ⟨v, ev, ?_⟩
      cases sl with
      | no => trivial
      | val d => exact Dq.mono e01 q
      | own ds =>
        obtain ⟨a, xs, q1, q2, q3, q4, q5, q6⟩ := q
        exact ⟨a, xs, q1, q2, by rw [onO_ne (lstn q4)]; exact q3, q4, q5, q6.mono e01⟩
    · subst h3
      obtain ⟨o, hoo, ea, efd⟩ := lkO_at h2
      cases hρ : ρ[i]? with
      | none => rw [hρ] at h1; cases h1
      | some sl =>
        rw [hρ] at h1
        cases sl with
        | no => cases h1
        | own ds => cases h1
        | val d =>
          obtain ⟨v, ev, q⟩ := s.at_ i _ hρ (by simp)
          refine ⟨v, ev, ?_⟩
          have := asO_at q h1
          subst this
          subst efd
          subst ea
          exact Dq.obj "Planner" o.fd (onO_at n hoo) (n.nm o hoo) ((f o hoo).mono e01)
  · have own : ∀ (k : Nat) (es : List PyData), ρ'[k]? = some (Sl.own es) → ρ[k]? = some (Sl.own es) := fun k es e => by
      rcases hf.at_ k _ e with e1 | ⟨a, fd, h1, h2, h3⟩
      · exact e1
      · cases h3
    exact s.dis i j ds es a hij (own i ds ei) (own j es ej)
  · obtain ⟨d, e⟩ := av p hp
    have q := t p hp
    rw [e] at q ⊢
    exact Dq.mono e01 q
  · obtain ⟨nb, e0, hi⟩ := back m
    exact ⟨_, ⟨Bp, n, nb, f.mono e0⟩, fun v d p q => Dq.thinA hi q p⟩
  · obtain ⟨H1', m, s', t'⟩ := ok
    obtain ⟨nb, e0, hi⟩ := back m
    refine OOk.make n ex (fun p hp => ?_) nb ⟨s.len, fun i sl e ne => ?_, s.dis⟩ (f.mono e0) (fun p hp => ?_)
    · rcases List.mem_append.mp hp with w | w
      · obtain ⟨d, e, _⟩ := hu p w
        exact ⟨d, e⟩
      · exact av p w
    · cases sl with
      | no => exact absurd rfl ne
      | val d =>
        obtain ⟨v, ev, q⟩ := s.at_ i _ e ne
        exact ⟨v, ev, Dq.mono e0 q⟩
      | own ds =>
        have hlt : i < ρ'.length := by rw [hf.len]; exact (List.getElem?_eq_some_iff.mp e).1
        have e' : ρ'[i]? = some (.own ds) := by
          have e2 := List.getElem?_eq_getElem hlt
          rcases hf.at_ i _ e2 with w | ⟨a, fd, h1, h2, h3⟩
          · rw [e2, ← w, e]
          · rw [e] at h1; cases h1
        obtain ⟨v, ev, q⟩ := s'.at_ i _ e' (by simp)
        refine ⟨v, ev, ?_⟩
        obtain ⟨a, xs, q1, q2, q3, q4, q5, q6⟩ := q
        refine ⟨a, xs, q1, q2, ?_, q4, q5, DqAll.thinA hi q6 ?_⟩
        · by_cases w : a ∈ os.map (·.a)
          · exact if_pos w
          · rw [offO_ne w]; exact q3
        · have := List.all_eq_true.mp ho (.own ds) (List.mem_of_getElem? e)
          exact this
    · rcases List.mem_append.mp hp with w | w
      · obtain ⟨d, e, pl⟩ := hu p w
        have q := t' p hp
        rw [e] at q ⊢
        exact Dq.thinA hi q pl
      · obtain ⟨d, e⟩ := av p w
        have q := t p w
        rw [e] at q ⊢
        exact Dq.mono e0 q
end
def oxR (is : List Nat) (f : Env → Res PyData) : OEx := fun ρ ws kv ke => ownB ρ = true ∧ match f (fz is ρ ws) with
  | .ok d => d.plain = true ∧ kv d ws
  | .err x => lineOf x = none ∧ ke x ws
  | .bad => False
def otR (is : List Nat) (f : Env → Res Bool) : OTx := fun ρ ws kb ke => ownB ρ = true ∧ match f (fz is ρ ws) with
  | .ok b => kb b ws
  | .err x => lineOf x = none ∧ ke x ws
  | .bad => False
section
variable {X : Cx} {K : PySem.W.Frag} {mg : Str → Option Value} {E : XK} {pos : Pos}
theorem ox_read {e : Expr} {f : Env → Res PyData} (is : List Nat) (h : PE X e (tD K mg E f)) : PE X e (tOE K mg E (oxR is f)) := pe_weak h fun σ H Q ⟨B0, B, ρ, ts, os, kv, ke, ok, q, hv, he⟩ => by
  obtain ⟨ho, q⟩ := q
  obtain ⟨Bp, H1, sok, oh, back⟩ := ok.frozen ho (fz_ok is ρ (obV os))
  refine ⟨H1, Bp, _, ts, sok, ?_⟩
  cases hf : f (fz is ρ (obV os)) with
  | ok d =>
    rw [hf] at q
    exact ⟨fun v H' ok' => hv d _ q.2 os v H' rfl (back [(v, .val d)] H' (fun p hp => by rw [List.mem_singleton.mp hp]; exact ⟨d, rfl, q.1⟩) ok')⟩
  | err x =>
    rw [hf] at q
    exact ⟨Rz.of (fun _ H0' H' n => by
      obtain ⟨H0'', h1, _⟩ := oh H0' H' n
      exact (he x _ q.2).2 os H0'' H' rfl h1) fun l z => by rw [q.1] at z; cases z⟩
  | bad => rw [hf] at q; exact q.elim
theorem ot_read {e : Expr} {f : Env → Res Bool} (is : List Nat) (h : PT X e (tT K mg E f)) : PT X e (tOT K mg E (otR is f)) := pt_weak h fun σ H Q ⟨B0, B, ρ, ts, os, kv, ke, ok, q, hv, he⟩ => by
  obtain ⟨ho, q⟩ := q
  obtain ⟨Bp, H1, sok, oh, back⟩ := ok.frozen ho (fz_ok is ρ (obV os))
  refine ⟨H1, Bp, _, ts, sok, ?_⟩
  cases hf : f (fz is ρ (obV os)) with
  | ok d =>
    rw [hf] at q
    exact ⟨fun H' ok' => hv d _ q os H' rfl (back [] H' (fun p hp => nomatch hp) ok')⟩
  | err x =>
    rw [hf] at q
    exact ⟨Rz.of (fun _ H0' H' n => by
      obtain ⟨H0'', h1, _⟩ := oh H0' H' n
      exact (he x _ q.2).2 os H0'' H' rfl h1) fun l z => by rw [q.1] at z; cases z⟩
  | bad => rw [hf] at q; exact q.elim
end
end DL

namespace DL
open PySem L2

/-! ### calls that write an object, new objects -/
/-- a method that writes its object -/
structure CalW (P : Program) (w : World) (K : PySem.W.Frag) (mg : Str → Option Value) (base : Heap) (k : Nat) (m : Str) (ps : List Str) (PM : OM) : Prop where
  ex : ∃ (f : Addr) (fd : FuncData), FnOk P w K mg base (L2.CX P w) k f fd ps (spM K mg PM) ∧ Meth K (plC K) m f ∧ Binds K fd ps []
theorem CalW.mono {P : Program} {w : World} {K : PySem.W.Frag} {mg : Str → Option Value} {base : Heap} {j k : Nat} {m : Str} {ps : List Str} {PM : OM} (C : CalW P w K mg base j m ps PM) (h : j ≤ k) : CalW P w K mg base k m ps PM :=
  let ⟨f, fd, G, r⟩ := C.ex; ⟨f, fd, G.mono h, r⟩
/-- a def that writes its first argument -/
structure CalF (P : Program) (w : World) (K : PySem.W.Frag) (mg : Str → Option Value) (base : Heap) (k : Nat) (x : Str) (ps : List Str) (PM : OM) : Prop where
  ex : ∃ (f : Addr) (fd : FuncData), FnOk P w K mg base (L2.CX P w) k f fd ps (spM K mg PM) ∧ mg x = some (.ref f) ∧ PySem.W.keepIn K (.ref f) = true ∧ Binds K fd ps []
theorem CalF.mono {P : Program} {w : World} {K : PySem.W.Frag} {mg : Str → Option Value} {base : Heap} {j k : Nat} {m : Str} {ps : List Str} {PM : OM} (C : CalF P w K mg base j m ps PM) (h : j ≤ k) : CalF P w K mg base k m ps PM :=
  let ⟨f, fd, G, r⟩ := C.ex; ⟨f, fd, G.mono h, r⟩
def callW (PM : OM) (a : Addr) (ds : List PyData) (ws : Os) (kv : PyData → Os → Prop) (ke : Str → Os → Prop) : Prop := match lkO a ws with
  | some fd => PM fd ds (fun d fd' => kv d (setW ws a fd')) (fun x fd' => ke x (setW ws a fd'))
  | none => False
def keyO (m : Str) (a : Addr) (ws : Os) : Prop := ∀ fd, lkO a ws = some fd → fd.lookup m = none
def oxMeth (m : Str) (i : Nat) (PM : OM) (fa : Env → Res (List PyData)) : OEx := fun ρ ws kv ke => match slO ρ[i]? with
  | some a => keyO m a ws ∧ (match fa ρ with
    | .ok ds => callW PM a ds ws kv ke
    | _ => False)
  | none => False
def oxCall (PM : OM) (fa : Env → Res (List PyData)) : OEx := fun ρ ws kv ke => match fa ρ with
  | .ok (d :: ds) => (match asO d with
    | some a => callW PM a ds ws kv ke
    | none => False)
  | _ => False
def oxNew (I : List PyData → Res Fd) (fa : Env → Res (List PyData)) : OEx := fun ρ ws kv ke => match fa ρ with
  | .ok ds => (match I ds with
    | .ok fd => ∀ a dx, (∀ p ∈ ws, p.1 ≠ a) → kv (exO a) ((a, dx, fd) :: ws)
    | _ => False)
  | _ => False
section
variable {X : Cx} {K : PySem.W.Frag} {mg : Str → Option Value} {E : XK} {pos apos p : Pos} {B0 B H1 : Hp} {os : List Ob} {ρ : Env} {us : List (V × Sl)} {σ : St}
theorem obj_go {PM : OM} {a : Addr} {vs : List V} {ds : List PyData} {kv : PyData → Os → Prop} {ke : Str → Os → Prop} {Q : VK} (ok : OOk K B0 B os ρ (vs.zip (ds.map Sl.val) ++ us) σ H1) (hl : vs.length = ds.length) (hP : callW PM a ds (obV os) kv ke)
    (hv : ∀ d ws, kv d ws → ∀ os' v H', obV os' = ws → OOk K B0 B os' ρ ((v, .val d) :: us) σ H' → Q v H') (he : ∀ x ws, ke x ws → OErr K mg E B0 B x ws) : spM K mg PM (.ref a :: (vs ++ [])) H1 Q E := by
  unfold callW at hP
  cases hlk : lkO a (obV os) with
  | none => rw [hlk] at hP; exact hP.elim
  | some fd =>
    rw [hlk] at hP
    have hP : PM fd ds (fun d fd' => kv d (setW (obV os) a fd')) (fun x fd' => ke x (setW (obV os) a fd')) := hP
    obtain ⟨o, ho, ea, efd⟩ := lkO_at hlk
    obtain ⟨Bp, H0, n, ex, av, nw, s, f, t, z⟩ := ok.parts
    subst ea
    subst efd
    have av' : AllVal us := fun q hq => av q (List.mem_append_right _ hq)
    have t' : ∀ q ∈ us, SlOk K Bp H0 H1 q.1 q.2 := fun q hq => t q (List.mem_append_right _ hq)
    have dq : DqAll K H0 (vs ++ []) ds := by
      rw [List.append_nil]
      exact vals_all (B := Bp) (H := H1) hl fun q hq => t q (List.mem_append_left _ hq)
    have e0 : Ex H0 (lessO H1 o) := fun q u hq => by
      rw [lessO_ne (fun w => by rw [w, (z o ho).1] at hq; cases hq) (fun w => by rw [w, (z o ho).2] at hq; cases hq)]
      exact nw.b q u hq
    have ew : ∀ o' : Ob, o'.a = o.a → o'.dx = o.dx → obV (setOb os o') = setW (obV os) o.a o'.fd := fun o' e1 e2 => by
      rw [obV_set fun x hx e => by rw [n.same ho hx (e.trans e1), e2], e1]
    refine ⟨H0, lessO H1 o, o, vs ++ [], ds, _, _, rfl, n.one nw.c ho, e0, fun x hx => by rw [List.mem_singleton.mp hx]; exact f o ho, dq, hP, fun d fd' hk o' v B0' H' e1 e2 e3 oh dv => ?_, fun x fd' hk => ?_⟩
    · obtain ⟨Bq, n', nw', s', f', t''⟩ := OOk.after n ex av' nw s f t' ho e1 e2 oh
      refine hv d _ hk (setOb os o') v H' (by rw [ew o' e1 e2, e3]) (OOk.make n' ex av'.cons nw' s' f' fun q hq => ?_)
      rcases List.mem_cons.mp hq with w | w
      · subst w; exact dv
      · exact t'' q w
    · obtain ⟨hx, hE⟩ := he x _ hk
      refine ⟨hx, fun o' B0' H' e1 e2 e3 oh => ?_⟩
      obtain ⟨Bq, n', nw', s', f', t''⟩ := OOk.after n ex av' nw s f t' ho e1 e2 oh
      exact hE (setOb os o') B0' H' (by rw [ew o' e1 e2, e3]) ⟨Bq, n', nw', f'⟩
theorem slO_at {i : Nat} {a : Addr} {ts : List (V × Sl)} (ok : OOk K B0 B os ρ ts σ H1) (h : slO ρ[i]? = some a) : ∃ d, ρ[i]? = some (.val d) ∧ asO d = some a := by
  cases hρ : ρ[i]? with
  | none => rw [hρ] at h; cases h
  | some sl =>
    rw [hρ] at h
    cases sl with
    | no => cases h
    | own ds => cases h
    | val d => exact ⟨d, rfl, h⟩
theorem key_at {m : Str} {a : Addr} {ts : List (V × Sl)} {v : V} {d : PyData} (ok : OOk K B0 B os ρ ((v, .val d) :: ts) σ H1) (hd : asO d = some a) (hk : keyO m a (obV os)) (hl : (lkO a (obV os)).isSome = true) : ∃ dx fs, v = .ref a ∧ H1 a = some (.ins (plC K) dx fs) ∧ fs.lookup m = none := by
  cases hlk : lkO a (obV os) with
  | none => rw [hlk] at hl; cases hl
  | some fd =>
    obtain ⟨o, ho, ea, efd⟩ := lkO_at hlk
    obtain ⟨Bp, H0, n, ex, av, nw, s, f, t, z⟩ := ok.parts
    refine ⟨o.dx, o.fs, asO_at (t (v, .val d) (by simp)) hd, by rw [← ea]; exact nw.c _ _ (n.at_ o ho).1, fld_none (n.nm o ho) (by rw [efd]; exact hk fd hlk)⟩
theorem callW_some {PM : OM} {a : Addr} {ds : List PyData} {ws : Os} {kv : PyData → Os → Prop} {ke : Str → Os → Prop} (h : callW PM a ds ws kv ke) : (lkO a ws).isSome = true := by
  unfold callW at h
  cases hl : lkO a ws with
  | none => rw [hl] at h; exact h.elim
  | some fd => rfl
theorem ox_meth {m : Str} {PM : OM} {k i : Nat} {ps : List Str} {o e : Expr} {es : List Expr} {fa : Env → Res (List PyData)} (C : CalW X.prog X.w X.K X.mg X.base k m ps PM) (c : Cls X.K (plC X.K)) (hr : Room k X.A) (hx : Passes (L2.CX X.prog X.w) X E) (ho : PE X o (tD X.K X.mg E (eVar i))) (ha : PA X (e :: es) (tA X.K X.mg E fa)) {pl : Sem Bool}
    (hst : starEach (e :: es) X.env = (false, eval e X.env) :: starEach es X.env := by rfl) (hpl : (backTo pos (starEach es X.env)).any (·.1) = false := by rfl)
    (ht : eval (.Call (.Attribute o m apos) (e :: es) [] pos) X.env = (do let ov ← eval o X.env; standAt apos.atName; let (f, first) ← holding [ov] (getMethod ov m pl); callWith pos f first (backTo pos (starEach (e :: es) X.env)) (backToKw pos (keywordEach [] X.env))) := by rfl) :
    PE X (.Call (.Attribute o m apos) (e :: es) [] pos) (tOE X.K X.mg E (oxMeth m i PM fa)) := by
  obtain ⟨f, fd, G, hm, hb⟩ := C.ex
  refine pe_weak (pe_meth (pl := pl) ho c hm G hr hb .nil hx ha hst hpl ht) fun σ H Q ⟨B0, B, ρ, ts, os, kv, ke, ok, q, hv, he⟩ => ?_
  unfold oxMeth at q
  cases hs : slO ρ[i]? with
  | none => rw [hs] at q; exact q.elim
  | some a =>
    simp only [hs] at q
    obtain ⟨hk, q⟩ := q
    cases hf : fa ρ with
    | err x => rw [hf] at q; exact q.elim
    | bad => rw [hf] at q; exact q.elim
    | ok ds =>
      rw [hf] at q
      obtain ⟨d, hd, hda⟩ := slO_at ok hs
      obtain ⟨Bp, H0, n, ex, sok, fo, oh, back⟩ := ok.anew
      have av := ok.choose_spec.2.2.1
      refine ⟨H0, Bp, ρ, ts, sok, go_of (show eVar i ρ = .ok d by unfold eVar; rw [hd]) fun v H1 ok1 => ?_⟩
      obtain ⟨dx, fs, ev, hH, hl⟩ := key_at (back ρ _ σ H1 av.cons ok1) hda hk (callW_some q)
      refine ⟨a, dx, fs, ev, hH, hl, H0, Bp, ρ, _, ok1, go_of hf fun vs H2 hl2 ok2 => ?_⟩
      have ok3 : OOk X.K B0 B os ρ (vs.zip (ds.map Sl.val) ++ ts) σ H2 := back ρ _ σ H2 (fun p hp => by
        rcases List.mem_append.mp hp with w | w
        · have : p.2 ∈ ds.map Sl.val := (List.of_mem_zip w).2
          obtain ⟨d', _, e⟩ := List.mem_map.mp this
          exact ⟨d', e.symm⟩
        · exact av p w) (ok2.sub fun p hp => by
        rcases List.mem_append.mp hp with w | w
        · exact List.mem_append_left _ w
        · exact List.mem_append_right _ (List.mem_cons_of_mem _ w))
      subst ev
      exact obj_go ok3 hl2 q hv he
theorem ox_meth0 {m : Str} {PM : OM} {k i : Nat} {ps : List Str} {o : Expr} (C : CalW X.prog X.w X.K X.mg X.base k m ps PM) (c : Cls X.K (plC X.K)) (hr : Room k X.A) (hx : Passes (L2.CX X.prog X.w) X E) (ho : PE X o (tD X.K X.mg E (eVar i))) {pl : Sem Bool}
    (ht : eval (.Call (.Attribute o m apos) [] [] pos) X.env = (do let ov ← eval o X.env; standAt apos.atName; let (f, first) ← holding [ov] (getMethod ov m pl); callWith pos f first (backTo pos (starEach [] X.env)) (backToKw pos (keywordEach [] X.env))) := by rfl) :
    PE X (.Call (.Attribute o m apos) [] [] pos) (tOE X.K X.mg E (oxMeth m i PM eNil)) := by
  obtain ⟨f, fd, G, hm, hb⟩ := C.ex
  refine pe_weak (pe_meth0 (pl := pl) ho c hm G hr hb .nil hx ht) fun σ H Q ⟨B0, B, ρ, ts, os, kv, ke, ok, q, hv, he⟩ => ?_
  unfold oxMeth at q
  cases hs : slO ρ[i]? with
  | none => rw [hs] at q; exact q.elim
  | some a =>
    simp only [hs] at q
    obtain ⟨hk, q⟩ := q
    have q : callW PM a [] (obV os) kv ke := q
    obtain ⟨d, hd, hda⟩ := slO_at ok hs
    obtain ⟨Bp, H0, n, ex, sok, fo, oh, back⟩ := ok.anew
    have av := ok.choose_spec.2.2.1
    refine ⟨H0, Bp, ρ, ts, sok, go_of (show eVar i ρ = .ok d by unfold eVar; rw [hd]) fun v H1 ok1 => ?_⟩
    obtain ⟨dx, fs, ev, hH, hl⟩ := key_at (back ρ _ σ H1 av.cons ok1) hda hk (callW_some q)
    subst ev
    exact ⟨a, dx, fs, rfl, hH, hl, obj_go (vs := []) (ds := []) (back ρ ts σ H1 av ok1.drop) rfl q hv he⟩
theorem ox_call {x : Str} {PM : OM} {k : Nat} {ps : List Str} {e : Expr} {es : List Expr} {fa : Env → Res (List PyData)} (C : CalF X.prog X.w X.K X.mg X.base k x ps PM) (hr : Room k X.A) (hx : Passes (L2.CX X.prog X.w) X E) (hg : Gl X x) (ha : PA X (e :: es) (tA X.K X.mg E fa)) (hdb : (x == ("__debug__" : Str)) = false := by decide)
    (hst : starEach (e :: es) X.env = (false, eval e X.env) :: starEach es X.env := by rfl) (hpl : (backTo pos (starEach es X.env)).any (·.1) = false := by rfl) : PE X (.Call (.Name x p) (e :: es) [] pos) (tOE X.K X.mg E (oxCall PM fa)) := by
  obtain ⟨f, fd, G, hm, kp, hb⟩ := C.ex
  refine pe_weak (pe_call G hr hg hm kp hb .nil hx ha hdb hst hpl) fun σ H Q ⟨B0, B, ρ, ts, os, kv, ke, ok, q, hv, he⟩ => ?_
  unfold oxCall at q
  cases hf : fa ρ with
  | err x => rw [hf] at q; exact q.elim
  | bad => rw [hf] at q; exact q.elim
  | ok ds =>
    rw [hf] at q
    cases ds with
    | nil => exact q.elim
    | cons d ds =>
      simp only at q
      cases hda : asO d with
      | none => rw [hda] at q; exact q.elim
      | some a =>
        rw [hda] at q
        obtain ⟨Bp, H0, n, ex, sok, fo, oh, back⟩ := ok.anew
        have av := ok.choose_spec.2.2.1
        refine ⟨H0, Bp, ρ, ts, sok, go_of hf fun vs H2 hl2 ok2 => ?_⟩
        cases vs with
        | nil => cases hl2
        | cons v vs =>
          have ok3 : OOk X.K B0 B os ρ ((v, .val d) :: (vs.zip (ds.map Sl.val) ++ ts)) σ H2 := back ρ _ σ H2 (fun p hp => by
            rcases List.mem_cons.mp hp with w | w
            · subst w; exact ⟨d, rfl⟩
            · rcases List.mem_append.mp w with w | w
              · have : p.2 ∈ ds.map Sl.val := (List.of_mem_zip w).2
                obtain ⟨d', _, e⟩ := List.mem_map.mp this
                exact ⟨d', e.symm⟩
              · exact av p w) ok2
          obtain ⟨Bp', H0', n', ex', av', nw', s', f', t', z'⟩ := ok3.parts
          have ev := asO_at (show Dq X.K H0' v d from t' (v, .val d) (by simp)) hda
          subst ev
          exact obj_go (ok3.sub fun p hp => List.mem_cons_of_mem _ hp) (by simpa using hl2) q hv he
theorem ox_new {I : List PyData → Res Fd} {k : Nat} {ps : List Str} {e : Expr} {es : List Expr} {fa : Env → Res (List PyData)} (C : CalI X.prog X.w X.K X.mg X.base k ps I) (hr : Room (k + 1) X.A) (hg : Gl X "Planner") (ha : PA X (e :: es) (tA X.K X.mg E fa))
    (hst : starEach (e :: es) X.env = (false, eval e X.env) :: starEach es X.env := by rfl) (hpl : (backTo pos (starEach es X.env)).any (·.1) = false := by rfl) : PE X (.Call (.Name "Planner" p) (e :: es) [] pos) (tOE X.K X.mg E (oxNew I fa)) := by
  obtain ⟨f, fd, PM, G, mk, gm, hb, hI⟩ := C.ex
  refine pe_weak (pe_make (E := E0) mk G hr hg gm hb .nil passL ha (by decide) hst hpl) fun σ H Q ⟨B0, B, ρ, ts, os, kv, ke, ok, q, hv, he⟩ => ?_
  unfold oxNew at q
  cases hf : fa ρ with
  | err x => rw [hf] at q; exact q.elim
  | bad => rw [hf] at q; exact q.elim
  | ok ds =>
    rw [hf] at q
    simp only at q
    cases hF : I ds with
    | err x => rw [hF] at q; exact q.elim
    | bad => rw [hF] at q; exact q.elim
    | ok fd =>
      rw [hF] at q
      obtain ⟨Bp, H0, n, ex, sok, fo, oh, back⟩ := ok.anew
      have av := ok.choose_spec.2.2.1
      refine ⟨H0, Bp, ρ, ts, sok, go_of hf fun vs H1 hl ok1 x dx hx hd ne => ?_⟩
      have ok3 : OOk X.K B0 B os ρ (vs.zip (ds.map Sl.val) ++ ts) σ H1 := back ρ _ σ H1 (fun p hp => by
        rcases List.mem_append.mp hp with w | w
        · have : p.2 ∈ ds.map Sl.val := (List.of_mem_zip w).2
          obtain ⟨d', _, e⟩ := List.mem_map.mp this
          exact ⟨d', e.symm⟩
        · exact av p w) ok1
      obtain ⟨Bp', H0', n', ex', av', nw', s', f', t', z'⟩ := ok3.parts
      have ts' : ∀ q ∈ ts, SlOk X.K Bp' H0' H1 q.1 q.2 := fun q hq => t' q (List.mem_append_right _ hq)
      have dq : DqAll X.K H0' (vs ++ []) ds := by
        rw [List.append_nil]
        exact vals_all (B := Bp') (H := H1) hl fun q hq => t' q (List.mem_append_left _ hq)
      refine ⟨H0', H1, ⟨x, dx, [], []⟩, vs ++ [], ds, _, _, rfl, ob_new hx hd ne, nw'.b, fd_nil, dq, (hI ds).1 fd hF, fun d fd' hk o' v B0' H' ea ed ef oh' dv => ?_, fun _ _ z => z.elim⟩
      obtain ⟨e1, e2⟩ := hk
      subst e1
      have ev : v = .non := by cases dv; rfl
      obtain ⟨Bq, n2, nw2, s2, f2, t2⟩ := OOk.born n' ex' av nw' s' f' ts' (by rw [ea]; exact hx) (by rw [ed]; exact hd) oh'
      refine ⟨ev, hv (exO x) _ (q x dx fun p hp e => ?_) (o' :: os) (.ref x) H' ?_ (OOk.make n2 ex' av.cons nw2 s2 f2 fun q hq => ?_)⟩
      · obtain ⟨o, ho, eo⟩ := List.mem_map.mp hp
        subst eo
        have := nw'.c _ _ (n'.at_ o ho).1
        rw [show o.a = x from e, hx] at this
        cases this
      · show (o'.a, o'.dx, o'.fd) :: obV os = _
        rw [ea, ed, ef, e2]
      · rcases List.mem_cons.mp hq with w | w
        · subst w; exact Dq.exc x 0 "o" fun l q => by cases q
        · exact t2 q w
/-- a comparison -/
def otCmp (g : PyData → PyData → Res PyData) (f1 f2 : OEx) : OTx := fun ρ ws kb ke => f1 ρ ws (fun d1 ws1 => f2 ρ ws1 (fun d2 ws2 => match g d1 d2 with
  | .ok (.bool b) => kb b ws2
  | _ => False) ke) ke
theorem ot_cmp {op : CmpOp} {g : PyData → PyData → Res PyData} {a b : Expr} {f1 f2 : OEx} (ho : OpR X (compareOp op) (rD2 K mg E g)) (ha : PE X a (tOE K mg E f1)) (hb : PE X b (tOE K mg E f2)) (hm : behindInMarks op b = false) : PT X (.Compare a [op] [b] pos) (tOT K mg E (otCmp g f1 f2)) :=
  pt_weak (pt_cmpR ho ha hb hm) fun σ H Q ⟨B0, B, ρ, ts, os, kb, ke, ok, q, hv, he⟩ => ⟨B0, B, ρ, ts, os, _, _, ok, q, fun d1 ws1 q1 os1 v1 H1 e1 ok1 => by
    subst e1
    exact ⟨B0, B, ρ, _, os1, _, _, ok1, q1, fun d2 ws2 q2 os2 v2 H2 e2 ok2 => by
      subst e2
      obtain ⟨Bp, H0, n, ex, sok, fo, oh, back⟩ := ok2.anew
      have av := ok.choose_spec.2.2.1
      cases hg : g d1 d2 with
      | err x => rw [hg] at q2; exact q2.elim
      | bad => rw [hg] at q2; exact q2.elim
      | ok d =>
        rw [hg] at q2
        cases d with
        | bool b =>
          refine ⟨H0, Bp, ρ, ts, σ, .val d1, .val d2, sok, by simp, by simp, go_of hg fun v H' ok' => ?_⟩
          have ev : v = .bl b := by
            obtain ⟨H0', n', s', t'⟩ := id ok'
            have z : Dq K H0' v (.bool b) := t' (v, .val (.bool b)) (by simp)
            cases z
            rfl
          exact ⟨b, ev, hv b _ q2 os2 H' rfl (back ρ ts σ H' av ok'.drop)⟩
        | _ => exact q2.elim, he⟩, he⟩
end
end DL

namespace DL
open PySem L2

/-! ### != by the own == -/
section
variable {prog : Program} {w : World} {A : Around} {E : Value → Shared → Prop} {s : Shared} {K : PySem.W.Frag} {x C L f : Addr} {h₀ : Heap} {m : Str → Option Value} {ox : Obj} {od : Option Obj} {b tb : Value}
theorem objNe_K (X : K.In s.heap) (I : PySem.W.InstAt s.heap x ox C od) (hu : A.units < cLine) (hs : PySem.W.findIn K (.ref C) "__eq__" = some (some (.ref f))) (hf : PySem.W.isFn K (.ref f) = true) {Q : Fin → Shared → Prop}
    (hcall : wpAny (model prog w) A (call (.ref f) [.ref x, b]) (fun v s' => ∃ r, v = .bool r ∧ Q (.done (.ret (.bool (!r)))) s') E s) :
    wpAny (model prog w) A (Builtin.«object.__ne__» ⟨[.ref x, b], []⟩) Q E s := by
  unfold Builtin.«object.__ne__»
  repeat (first
    | with_reducible refine wpAny_cRoomFor hu ?_
    | (refine wpAny_bind (m := callSpecialIfBound? (.ref x) (Str.ofString "__eq__") [b])
        (PySem.W.ifBound_K X I hs hf (wpAny_mono hcall (fun r s' hr => by
          obtain ⟨b, rfl, hq⟩ := hr
          repeat (first | exact hq | exact wpAny_pure hq | exact wpAny_truthy_bool hq | (refine wpAny_bind (m := truthy (.bool _)) (wpAny_truthy_bool ?_)) | wp_step)) fun _ _ e => e)))
    | wp_step)
theorem ne_K {Q : Value → Shared → Prop} (hu : A.units + 1 < cLine) (X : K.In s.heap) (I : PySem.W.InstAt s.heap x ox C od) (hb : PySem.W.Looks (model prog w) s.heap (typeOf b) tb) (hn : PySem.W.notFirst K C tb = true)
    (hs : PySem.W.findIn K (.ref C) "__ne__" = some (some (.builtin "object.__ne__"))) (he : PySem.W.findIn K (.ref C) "__eq__" = some (some (.ref f))) (hf : PySem.W.isFn K (.ref f) = true) (ho : PySem.W.mroIn K C (.type "object") = some true)
    (h : wpAny (model prog w) A.in1 (call (.ref f) [.ref x, b]) (fun v s' => ∃ r, v = .bool r ∧ Q (.bool (!r)) s') E s) : wpAny (model prog w) A (richCompare .NotEq (.ref x) b) Q E s := by
  have inst : PySem.W.Looks (model prog w) s.heap (isInstance (.ref x) (.type "object")) true := I.type.andThen (PySem.W.looks_mroIn X ho)
  have cl : wpAny (model prog w) A (call (.builtin "object.__ne__") [.ref x, b]) (fun v s' => ∃ r, v = .bool r ∧ Q v s') E s := by
    refine wpAny_call (codeAny_call_builtin PySem.F.cmp_object.ne.plain PySem.F.cmpEntry_ne (@PySem.W.check_slot (model prog w) _ _ _ "object.__ne__" "object" "__ne__" (.ref x) [b] [] _ (by decide +kernel) (by decide +kernel) inst (PySem.F.cmpArgs_ne _ _) ?_))
    refine objNe_K (A := A.in1) X I hu he hf (wpAny_mono h (fun v s' hv => ?_) fun _ _ e => e)
    obtain ⟨r, rfl, hq⟩ := hv
    exact ⟨r, rfl, ⟨_, rfl, hq⟩⟩
  have one : wpAny (model prog w) A (tryCompare (.ref x) (cmpInfo .NotEq).2.1 b) (fun r s' => ∃ v, r = some v ∧ Q v s') E s := by
    unfold tryCompare
    simp only [callSpecialIfBound?, bindSpecialIfBound?]
    refine wpAny_bind (wpAny_holding (wpAny_bind (wpAny_bind (wpAny_bind (I.type.here ((PySem.W.looks_findIn X hs).here ?_))))))
    simp only [PySem.F.cmp_object.ne.bind]
    refine wpAny_bind (wpAny_askSetting (wpAny_ite ?_))
    have fin : ∀ {R : Option Value → Shared → Prop}, (∀ v s', (∃ r, v = .bool r ∧ Q v s') → R (some v) s') → wpAny (model prog w) A (call (.builtin "object.__ne__") ([.ref x] ++ [b]) >>= fun v => pure (some v)) R E s := fun {R} hR => wpAny_bind (wpAny_mono cl (fun v s' h' => wpAny_pure (hR v s' h')) fun _ _ h' => h')
    have last : ∀ v s', (∃ r, v = .bool r ∧ Q v s') → wpAny (model prog w) A (match (some v : Option Value) with
      | none => pure none
      | some Value.notImplemented => pure none
      | r => pure r) (fun r s' => ∃ v, r = some v ∧ Q v s') E s' := fun v s' ⟨r, e, q⟩ => by
      subst e
      exact wpAny_pure ⟨_, rfl, q⟩
    split
    · exact wpAny_bind (wpAny_pure (wpAny_pure (fin fun v s' ⟨r, e, q⟩ => by subst e; exact wpAny_pure ⟨_, rfl, q⟩)))
    · exact wpAny_tryCatch (wpAny_bind (wpAny_pure (wpAny_pure (fin fun v s' ⟨r, e, q⟩ => by subst e; exact wpAny_pure ⟨_, rfl, q⟩))))
  unfold richCompare
  simp only [oneThing_ref]
  refine wpAny_holding (wpAny_bind (wpAny_cRoomFor (Nat.lt_of_succ_lt hu) ?_))
  refine wpAny_bind (I.type.here (wpAny_bind (hb.here ?_)))
  split
  · rename_i q
    have e : PySem.W.subIn K tb (.ref C) = some false := by
      rcases Bool.or_eq_true_iff.mp hn with e | e
      · rw [beq_iff_eq.mp e] at q; simp at q
      · exact beq_iff_eq.mp e
    refine wpAny_bind ((PySem.W.looks_subIn X e).here ?_)
    simp only [Bool.false_eq_true, if_false]
    refine wpAny_bind (wpAny_mono one (fun r s' z => ?_) fun _ _ e => e)
    obtain ⟨v, rfl, hq⟩ := z
    exact wpAny_pure hq
  · refine wpAny_bind (wpAny_pure ?_)
    simp only [Bool.false_eq_true, if_false]
    refine wpAny_bind (wpAny_mono one (fun r s' z => ?_) fun _ _ e => e)
    obtain ⟨v, rfl, hq⟩ := z
    exact wpAny_pure hq
end
/-! ### len, str, ==, != of an object that is frozen -/
def ownL (F : List PyData → Res PyData) (d : PyData) : Res PyData := match isPl d with
  | some _ => (noErr (F [d])).bind fun r => (match r with
    | .int n => if 0 ≤ n ∧ n < 2 ^ 63 then .ok (.int n) else .bad
    | _ => .bad)
  | none => .bad
def ownS (F : List PyData → Res PyData) (d : PyData) : Res PyData := match isPl d with
  | some _ => (noErr (F [d])).bind fun r => (match r with
    | .str z => .ok (.str z)
    | _ => .bad)
  | none => .bad
def eqArg (e : PyData) : Bool := (isPl e).isSome || (isT e || isS e)
def ownE (F : List PyData → Res PyData) (d e : PyData) : Res PyData := match isPl d with
  | some _ => if eqArg e = true then (noErr (F [d, e])).bind fun r => (match r with
    | .bool b => .ok (.bool b)
    | _ => .bad) else .bad
  | none => .bad
/-- isinstance(x, Planner) -/
def isPD (d : PyData) : Res PyData := if eqArg d = true then .ok (.bool (isPl d).isSome) else .bad
def ownN (F : List PyData → Res PyData) (d e : PyData) : Res PyData := match isPl d, isPl e with
  | some _, some _ => (noErr (F [d, e])).bind fun r => (match r with
    | .bool b => .ok (.bool !b)
    | _ => .bad)
  | _, _ => .bad
def strS : PyData → Res PyData
  | .str z => .ok (.str z)
  | _ => .bad
section
variable {X : Cx} {pins : List (Addr × Obj)} {σ : St} {H : Hp} {s : Shared} {E : XK}
theorem run_sub {A : Around} {f : Addr} {fd : FuncData} {ps : List Str} {sp : Sp} {n : Nat} {Q : VK} {us : List Value} {ws : List V} (F : FnOk X.prog X.w X.K X.mg X.base (L2.CX X.prog X.w) n f fd ps sp) (hb : Binds X.K fd ps []) (hr : Room n A) (e0 : Env0 X.prog X.w X.K X.mg X.base A X.stack s H) (hx : Passes (L2.CX X.prog X.w) X E) (I : Inv X pins σ H s) (r : Vals ws us) (h : sp ws H Q E) :
    wpAny (model X.prog X.w) A (call (.ref f) us) (EP X pins σ Q) X.xe s := by
  have hl := F.len _ _ _ _ h
  refine wpAny_call (codeAny_mono (F.run A X.stack s H ⟨us, []⟩ us ws _ E hr e0 (by
    have := hb s us I.kIn (by rw [List.append_nil, ← r.length]; exact hl)
    rw [List.append_nil] at this
    exact this) r h) fun r s' hq => ?_)
  cases r with
  | error e => exact hx pins σ H s e s' I hq
  | ok fl =>
    cases fl with
    | ret w => exact I.after hq
    | next => exact False.elim hq
    | brk => exact False.elim hq
    | cont => exact False.elim hq
theorem isPl_sl {B0 B : Hp} {ρ : Env} {ts : List (V × Sl)} {v : V} {sl : Sl} (ok : SOk X.K B0 B ρ ((v, sl) :: ts) σ H) (h : (isPl (dat sl)).isSome = true) : ∃ a dx fs d, sl = .val d ∧ v = .ref a ∧ H a = some (.ins (plC X.K) dx fs) := by
  cases sl with
  | no => cases h
  | own ds => cases h
  | val d =>
    have h : (isPl d).isSome = true := h
    cases hp : isPl d with
    | none => rw [hp] at h; cases h
    | some kvs =>
      obtain ⟨H0, n, s, t⟩ := id ok
      obtain ⟨a, dx, fs, fd, ev, ha, _⟩ := isPl_at (show Dq X.K H0 v d from t (v, .val d) (by simp)) hp
      exact ⟨a, dx, fs, d, rfl, ev, n.b _ _ ha⟩
theorem c_lenO {k : Nat} {ps : List Str} {F : List PyData → Res PyData} (C : CalM X.prog X.w X.K X.mg X.base k "__len__" ps F) (hr : Room (k + 1) X.A) : CallR X (.builtin "len") (rDC X.K X.mg E (call1 (ownL F))) := by
  intro pins s σ H xs us Q I r h
  obtain ⟨f, fd, G, hm, hb⟩ := C.ex
  obtain ⟨B0, B, ρ, ts, σ', ss, hl, ok, ne, kk⟩ := h
  match xs, ss, hl with
  | [], [], _ => exact kk.bad
  | v1 :: v2 :: vs, s1 :: s2 :: ss, _ => exact kk.bad
  | [v], [sl], _ =>
    have kk : (ownL F (dat sl)).go (fun d => ∀ v H', SOk X.K B0 B ρ ((v, .val d) :: ts) σ' H' → Q v H') (Rz X.mg E B0 B) := kk
    unfold ownL at kk
    cases hp : isPl (dat sl) with
    | none => rw [hp] at kk; exact kk.bad
    | some kvs =>
      rw [hp] at kk
      obtain ⟨a, dx, fs, d, rfl, rfl, ha⟩ := isPl_sl (X := X) (ts := ts) ok (by rw [hp]; rfl)
      obtain ⟨u, rfl, ru⟩ := vals1 r
      obtain rfl : u = Value.ref a := ru
      obtain ⟨mA, J, _⟩ := ins_get I.hok ha
      obtain ⟨od, J, _⟩ := J.look
      obtain ⟨m, hF⟩ := I.fr
      have g : (F [d]).go (fun d' => ∀ z H', SOk X.K B0 B ρ ((z, .val d') :: ts) σ' H' → ∃ n : Int, z = .int n ∧ (0 ≤ n ∧ n < 2 ^ 63) ∧ Q z H') (Rz X.mg E0 B0 B) := noErr_go (R := Rz X.mg E B0 B) (kk.go_bind.go_mono fun d' kd z H' ok' => by
        obtain ⟨H0, n, s, t⟩ := id ok'
        have z' : Dq X.K H0 z d' := t (z, .val d') (by simp)
        cases z' with
        | int i =>
          by_cases hi : 0 ≤ i ∧ i < 2 ^ 63
          · simp only [if_pos hi] at kd
            exact ⟨i, rfl, hi, kd.ok _ H' ok'⟩
          · simp only [if_neg hi] at kd
            exact kd.bad
        | _ => exact kd.bad)
      refine PySem.W.len_K hF I.ok.mod.kin J hm.at_ hm.fn (wpAny_mono (run_sub (A := X.A.in1) G hb hr.in1 I.env0.in1 passL I r (meth_go (X := X) (vs := []) (ds := []) ok rfl g)) (fun w s' z => ?_) fun _ _ x => x)
      obtain ⟨z', H', I', rz, n, ez, hn, qz⟩ := z
      subst ez
      obtain ⟨t, e⟩ := (show ∃ t, w = Value.int n t from rz)
      cases e
      exact ⟨hn, .int n, H', I'.tok _, ⟨_, rfl⟩, qz⟩
theorem c_strO {k : Nat} {ps : List Str} {F : List PyData → Res PyData} (C : CalM X.prog X.w X.K X.mg X.base k "__str__" ps F) (hr : Room (k + 2) X.A) : CallR X (.type "str") (rDC X.K X.mg E (call1 (ownS F))) := by
  intro pins s σ H xs us Q I r h
  obtain ⟨f, fd, G, hm, hb⟩ := C.ex
  obtain ⟨B0, B, ρ, ts, σ', ss, hl, ok, ne, kk⟩ := h
  match xs, ss, hl with
  | [], [], _ => exact kk.bad
  | v1 :: v2 :: vs, s1 :: s2 :: ss, _ => exact kk.bad
  | [v], [sl], _ =>
    have kk : (ownS F (dat sl)).go (fun d => ∀ v H', SOk X.K B0 B ρ ((v, .val d) :: ts) σ' H' → Q v H') (Rz X.mg E B0 B) := kk
    unfold ownS at kk
    cases hp : isPl (dat sl) with
    | none => rw [hp] at kk; exact kk.bad
    | some kvs =>
      rw [hp] at kk
      obtain ⟨a, dx, fs, d, rfl, rfl, ha⟩ := isPl_sl (X := X) (ts := ts) ok (by rw [hp]; rfl)
      obtain ⟨u, rfl, ru⟩ := vals1 r
      obtain rfl : u = Value.ref a := ru
      obtain ⟨mA, J, _⟩ := ins_get I.hok ha
      obtain ⟨od, J, _⟩ := J.look
      have g : (F [d]).go (fun d' => ∀ z H', SOk X.K B0 B ρ ((z, .val d') :: ts) σ' H' → ∃ n : Str, z = .str n ∧ Q z H') (Rz X.mg E0 B0 B) := noErr_go (R := Rz X.mg E B0 B) (kk.go_bind.go_mono fun d' kd z H' ok' => by
        obtain ⟨H0, n, s, t⟩ := id ok'
        have z' : Dq X.K H0 z d' := t (z, .val d') (by simp)
        cases z' with
        | str i _ => exact ⟨i, rfl, kd.ok _ H' ok'⟩
        | _ => exact kd.bad)
      have hr2 : Room k X.A.in1.in1 := (show Room (k + 1) X.A.in1 from Room.in1 hr).in1
      refine PySem.W.kso_call hr2.units0 I.kIn J hm.at_ hm.fn (wpAny_mono (run_sub (A := X.A.in1.in1) G hb hr2 I.env0.in1.in1 passL I r (meth_go (X := X) (vs := []) (ds := []) ok rfl g)) (fun w s' z => ?_) fun _ _ x => x)
      obtain ⟨z', H', I', rz, n, ez, qz⟩ := z
      subst ez
      obtain ⟨t, e⟩ := (show ∃ t, w = Value.str n t from rz)
      cases e
      exact ⟨.str n, H', I', ⟨_, rfl⟩, qz⟩
theorem c_strS : CallR X (.type "str") (rDC X.K X.mg E (call1 strS)) := by
  intro pins s σ H xs us Q I r h
  obtain ⟨B0, B, ρ, ts, σ', ss, hl, ok, ne, kk⟩ := h
  match xs, ss, hl with
  | [], [], _ => exact kk.bad
  | v1 :: v2 :: vs, s1 :: s2 :: ss, _ => exact kk.bad
  | [v], [sl], _ =>
    have kk : (strS (dat sl)).go (fun d => ∀ v H', SOk X.K B0 B ρ ((v, .val d) :: ts) σ' H' → Q v H') (Rz X.mg E B0 B) := kk
    cases sl with
    | no => exact kk.bad
    | own ds => exact kk.bad
    | val d =>
      obtain ⟨H0, n, s, t⟩ := id ok
      have z' : Dq X.K H0 v d := t (v, .val d) (by simp)
      cases z' with
      | str z hz => exact SkE.call_str_str pins _ σ H _ us Q I r ⟨z, rfl, kk.ok (.str z) H ok⟩
      | _ => exact kk.bad
/-- what ==, != and isinstance ask of the class -/
structure PlQ (K : PySem.W.Frag) : Prop where
  cl : Cls K (plC K)
  ne : PySem.W.findIn K (.ref (plC K)) "__ne__" = some (some (.builtin "object.__ne__"))
  ob : PySem.W.mroIn K (plC K) (.type "object") = some true
  ca : PySem.W.findIn K (.ref (plC K)) "__class__" = some (some (.builtin "object.__class__"))
  cn : PySem.W.specialIn K (.builtin "object.__class__") "__get__" = some (some (.builtin "getset_descriptor.__get__"))
  ct : PySem.W.takesIn K (.builtin "object.__class__") = some true
  io : PySem.W.kitOne K (.ref (plC K)) (.ref (plC K)) = some true
  kt : PySem.W.kitOne K (.type "tuple") (.ref (plC K)) = some false
  ks : PySem.W.kitOne K (.type "str") (.ref (plC K)) = some false
  nt : PySem.W.notFirst K (plC K) (.type "tuple") = true
  ns : PySem.W.notFirst K (plC K) (.type "str") = true
theorem ty_sl {B0 B : Hp} {ρ : Env} {ts : List (V × Sl)} {v : V} {sl : Sl} (P : PlQ X.K) (ok : SOk X.K B0 B ρ ((v, sl) :: ts) σ H) (h : eqArg (dat sl) = true) : ∃ t d, sl = .val d ∧ TyX X.K H v t ∧ PySem.W.notFirst X.K (plC X.K) t = true ∧ PySem.W.kitOne X.K t (.ref (plC X.K)) = some (isPl d).isSome := by
  cases hp : isPl (dat sl) with
  | some kvs =>
    obtain ⟨a, dx, fs, d, rfl, rfl, ha⟩ := isPl_sl (X := X) (ts := ts) ok (by rw [hp]; rfl)
    exact ⟨_, d, rfl, .base (.ins ha P.cl P.ca P.cn P.ct P.ob), by simp [PySem.W.notFirst], by rw [show isPl d = some kvs from hp]; exact P.io⟩
  | none =>
    cases sl with
    | no => cases h
    | own ds => cases h
    | val d =>
      obtain ⟨H0, n, s, t⟩ := id ok
      have z : Dq X.K H0 v d := t (v, .val d) (by simp)
      have hp : isPl d = none := hp
      have h : ((isPl d).isSome || (isT d || isS d)) = true := h
      rw [hp] at h
      have h : (isT d || isS d) = true := h
      cases z with
      | str y _ => exact ⟨_, _, rfl, .base (.str y), P.ns, P.ks⟩
      | tup hh _ _ =>
        obtain ⟨_, _, q⟩ := hh.mono n.b
        exact ⟨_, _, rfl, .fTuple q, P.nt, P.kt⟩
      | _ => cases h
theorem c_isP (P : PlQ X.K) {B0 B : Hp} {ρ : Env} {ts : List (V × Sl)} {v : V} {sl : Sl} {Q : VK} (ok : SOk X.K B0 B ρ ((v, sl) :: ts) σ H) (kk : (isPD (dat sl)).go (fun d => ∀ v H', SOk X.K B0 B ρ ((v, .val d) :: ts) σ H' → Q v H') (Rz X.mg E B0 B)) : rIsi X.K [v, .ref (plC X.K)] H Q := by
  unfold isPD at kk
  by_cases h : eqArg (dat sl) = true
  · rw [if_pos h] at kk
    obtain ⟨t, d, rfl, ty, _, ko⟩ := ty_sl P ok h
    exact ⟨v, .ref (plC X.K), t, _, _, rfl, .own _, ty, ko, kk.ok _ _ ok.drop.bl⟩
  · rw [if_neg h] at kk
    exact kk.bad
theorem d_isP {e : Expr} {f : Env → Res PyData} {p q pos : Pos} {mg : Str → Option Value} (P : PlQ X.K) (gm : X.mg "Planner" = some (.ref (plC X.K))) (T : Blt X.mg) (hg : Gl X "isinstance") (hgT : Gl X "Planner") (he : PE X e (tSh X.K X.mg E f))
    (hs : starEach [e, .Name "Planner" q] X.env = (false, eval e X.env) :: starEach [.Name "Planner" q] X.env := by rfl) (hpl : (backTo pos (starEach [.Name "Planner" q] X.env)).any (·.1) = false := by rfl) (hs2 : starEach [.Name "Planner" q] X.env = (false, eval (.Name "Planner" q) X.env) :: starEach [] X.env := by rfl) :
    PE X (.Call (.Name "isinstance" p) [e, .Name "Planner" q] [] pos) (tD X.K X.mg E fun ρ => (f ρ).bind isPD) :=
  pe_weak (pe_callB call_isi hg T.isinstance (by decide +kernel) (pa_cons he (pa_cons (pe_glob (v := .ref (plC X.K)) hgT gm rfl (by decide)) pa_nil hs2) hs) (by decide) (by decide) hs hpl) fun σ H Q ⟨B0, B, ρ, ts, ok, q⟩ => ⟨B0, B, ρ, ts, ok, q.go_bind.go_mono fun d k v s H' ne ed ok' => by
    subst ed
    exact c_isP P ok' k⟩
theorem o_eqO {k : Nat} {ps : List Str} {F : List PyData → Res PyData} (P : PlQ X.K) (C : CalM X.prog X.w X.K X.mg X.base k "__eq__" ps F) (hr : Room k X.A) : OpR X (compareOp .Eq) (rD2 X.K X.mg E (ownE F)) := by
  intro pins s σ H x y v u Q I rx ry h
  obtain ⟨f, fd, G, hm, hb⟩ := C.ex
  obtain ⟨B0, B, ρ, ts, σ', sx, sy, ok, nx, ny, kk⟩ := h
  unfold ownE at kk
  cases hp : isPl (dat sx) with
  | none => rw [hp] at kk; exact kk.bad
  | some kvs =>
    rw [hp] at kk
    by_cases hq : eqArg (dat sy) = true
    · simp only [if_pos hq] at kk
      have ok2 : SOk X.K B0 B ρ ((x, sx) :: (y, sy) :: ts) σ' H := ok.sub fun p hp => by
        simp only [List.mem_cons] at hp ⊢
        rcases hp with z | z | z
        · exact .inr (.inl z)
        · exact .inl z
        · exact .inr (.inr z)
      obtain ⟨a, dx, fs, d, rfl, rfl, ha⟩ := isPl_sl (X := X) ok2 (by rw [hp]; rfl)
      obtain ⟨t, e, rfl, ty, nf, _⟩ := ty_sl P ok hq
      cases (show v = Value.ref a from rx)
      obtain ⟨Pr, Z, pz, _⟩ := kit_of I ry ty
      obtain ⟨mA, J, _⟩ := ins_get I.hok ha
      obtain ⟨od, J, _⟩ := J.look
      obtain ⟨m, hF⟩ := I.fr
      have g : (F [d, e]).go (fun d' => ∀ z H', SOk X.K B0 B ρ ((z, .val d') :: ts) σ' H' → ∃ n : Bool, z = .bl n ∧ Q z H') (Rz X.mg E0 B0 B) := noErr_go (R := Rz X.mg E B0 B) (kk.go_bind.go_mono fun d' kd z H' ok' => by
        obtain ⟨H0, n, s, t⟩ := id ok'
        have z' : Dq X.K H0 z d' := t (z, .val d') (by simp)
        cases z' with
        | bl i => exact ⟨i, rfl, kd.ok _ H' ok'⟩
        | _ => exact kd.bad)
      show wpAny (model X.prog X.w) X.A (richCompare .Eq (.ref a) u) _ _ s
      refine PySem.W.cmp_K (op := .Eq) (tb := t) hr.units0 hF I.ok.mod.kin J (Z.ty _ _ I.kIn pz) nf hm.at_ hm.fn (wpAny_mono (run_sub (A := X.A) (us := [.ref a, u]) (ws := [.ref a, y]) G hb hr I.env0 passL I (.cons rfl (.cons ry .nil)) (meth_go (X := X) (vs := [y]) (ds := [e]) ok rfl g)) (fun w s' z => ?_) fun _ _ x => x)
      obtain ⟨z', H', I', rz, n, ez, qz⟩ := z
      subst ez
      cases (show w = Value.bool n from rz)
      exact ⟨.bl n, H', I', rfl, qz⟩
    · simp only [if_neg hq] at kk
      exact kk.bad
theorem o_neO {k : Nat} {ps : List Str} {F : List PyData → Res PyData} (P : PlQ X.K) (C : CalM X.prog X.w X.K X.mg X.base k "__eq__" ps F) (hr : Room (k + 1) X.A) : OpR X (compareOp .NotEq) (rD2 X.K X.mg E (ownN F)) := by
  intro pins s σ H x y v u Q I rx ry h
  obtain ⟨f, fd, G, hm, hb⟩ := C.ex
  obtain ⟨B0, B, ρ, ts, σ', sx, sy, ok, nx, ny, kk⟩ := h
  unfold ownN at kk
  cases hp : isPl (dat sx) with
  | none => rw [hp] at kk; exact kk.bad
  | some kvs =>
    cases hq : isPl (dat sy) with
    | none => rw [hp, hq] at kk; exact kk.bad
    | some kws =>
      rw [hp, hq] at kk
      have ok2 : SOk X.K B0 B ρ ((x, sx) :: (y, sy) :: ts) σ' H := ok.sub fun p hp => by
        simp only [List.mem_cons] at hp ⊢
        rcases hp with z | z | z
        · exact .inr (.inl z)
        · exact .inl z
        · exact .inr (.inr z)
      obtain ⟨a, dx, fs, d, rfl, rfl, ha⟩ := isPl_sl (X := X) ok2 (by rw [hp]; rfl)
      obtain ⟨b, dy, gs, e, rfl, rfl, hb'⟩ := isPl_sl (X := X) ok (by rw [hq]; rfl)
      cases (show v = Value.ref a from rx)
      cases (show u = Value.ref b from ry)
      obtain ⟨mA, J, _⟩ := ins_get I.hok ha
      obtain ⟨mB, J', _⟩ := ins_get I.hok hb'
      obtain ⟨od, J, _⟩ := J.look
      obtain ⟨od', J', _⟩ := J'.look
      have g : (F [d, e]).go (fun d' => ∀ z H', SOk X.K B0 B ρ ((z, .val d') :: ts) σ' H' → ∃ n : Bool, z = .bl n ∧ Q (.bl !n) H') (Rz X.mg E0 B0 B) := noErr_go (R := Rz X.mg E B0 B) (kk.go_bind.go_mono fun d' kd z H' ok' => by
        obtain ⟨H0, n, s, t⟩ := id ok'
        have z' : Dq X.K H0 z d' := t (z, .val d') (by simp)
        cases z' with
        | bl i => exact ⟨i, rfl, kd.ok _ H' (SOk.bl ok'.drop)⟩
        | _ => exact kd.bad)
      have hr1 : Room k X.A.in1 := hr.in1
      show wpAny (model X.prog X.w) X.A (richCompare .NotEq (.ref a) (.ref b)) _ _ s
      refine ne_K (tb := .ref (plC X.K)) hr1.units0 I.kIn J J'.type (by simp [PySem.W.notFirst]) P.ne hm.at_ hm.fn P.ob (wpAny_mono (run_sub (A := X.A.in1) (us := [.ref a, .ref b]) (ws := [.ref a, .ref b]) G hb hr1 I.env0.in1 passL I (.cons rfl (.cons rfl .nil)) (meth_go (X := X) (vs := [.ref b]) (ds := [e]) ok rfl g)) (fun w s' z => ?_) fun _ _ x => x)
      obtain ⟨z', H', I', rz, n, ez, qz⟩ := z
      subst ez
      cases (show w = Value.bool n from rz)
      exact ⟨n, rfl, .bl !n, H', I', rfl, qz⟩
end
end DL

namespace DL
open PySem L2

/-! ### the rest of a body upon frozen objects -/
def oFrz (is : List Nat) (S : Env → RS) : OSt := fun ρ ws κ => ownB ρ = true ∧ match S (fz is ρ ws) with
  | .ret d => d.plain = true ∧ κ.rt d ws
  | .err x => lineOf x = none ∧ κ.er x ws
  | _ => False
section
variable {X : Cx} {K : PySem.W.Frag} {mg : Str → Option Value} {E : XK} {pos : Pos}
theorem o_frz {sts : List Stmt} {S : Env → RS} (is : List Nat) (h : PSs X sts (tS K mg E S)) : PSs X sts (tO K mg E (oFrz is S)) := pss_weak h fun D σ H ⟨B0, B, ρ, ts, os, κ, ok, q, en⟩ => by
  obtain ⟨ho, q⟩ := q
  obtain ⟨Bp, H1, sok, oh, back⟩ := ok.frozen ho (fz_ok is ρ (obV os))
  refine ⟨H1, Bp, _, ts, sok, ok.choose_spec.2.2.1, ⟨?_⟩⟩
  cases hS : S (fz is ρ (obV os)) with
  | ret d =>
    rw [hS] at q
    exact fun v H0' H' nw dv => by
      obtain ⟨H0'', h1, h2⟩ := oh H0' H' nw
      exact en.rt d _ q.2 os v H0'' H' rfl h1 (h2 v d q.1 dv)
  | err x =>
    rw [hS] at q
    exact Rz.of (fun _ H0' H' n => by
      obtain ⟨H0'', h1, _⟩ := oh H0' H' n
      exact (en.er x _ q.2).2 os H0'' H' rfl h1) fun l z => by rw [q.1] at z; cases z
  | nx ρ' => rw [hS] at q; exact q.elim
  | brk ρ' => rw [hS] at q; exact q.elim
  | cnt ρ' => rw [hS] at q; exact q.elim
  | bad => rw [hS] at q; exact q.elim
end

/-! ### the law's def: objects of its own, True -/
def okRun (n m : Nat) (S : OSt) (ds : List PyData) : Prop := ds.length = n ∧ S (ds.map Sl.val ++ List.replicate (m - n) Sl.no) [] ⟨fun _ _ => False, fun d _ => d = .bool true, fun _ _ => False⟩
open Classical in
noncomputable def runL (n m : Nat) (S : OSt) (ds : List PyData) : Res PyData := if okRun n m S ds then .ok (.bool true) else .bad
theorem runL_at {n m : Nat} {S : OSt} {ds : List PyData} (h : okRun n m S ds) : runL n m S ds = .ok (.bool true) := if_pos h
theorem runL_go {n m : Nat} {S : OSt} {ds : List PyData} {P : PyData → Prop} {R : Str → Prop} (h : (runL n m S ds).go P R) : okRun n m S ds ∧ P (.bool true) := by
  unfold runL at h
  split at h
  · rename_i q; exact ⟨q, h.ok⟩
  · exact h.bad
theorem obH_nil {K : PySem.W.Frag} {H : Hp} : ObH K H [] H := ⟨fun _ h => (nomatch h), fun _ _ => rfl, fun _ h => (nomatch h), List.nodup_nil, fun _ h => (nomatch h), fun _ h => (nomatch h)⟩
theorem OOk.start {K : PySem.W.Frag} {B0 H : Hp} {vs : List V} {ds : List PyData} {N : List Str} {n : Nat} (ex : Ex B0 H) (dq : DqAll K B0 vs ds) (hn : ds.length = n) : OOk K B0 H [] (ds.map Sl.val ++ List.replicate (N.length - n) Sl.no) [] (L2.start N vs) H := by
  have st := SOk.start (K := K) (B0 := B0) (H := H) (vs := vs) (ds := ds) (N := N) ex dq
  rw [hn] at st
  exact ⟨H, obH_nil, ex, fun p hp => (nomatch hp), st⟩
theorem OH.nw {K : PySem.W.Frag} {B0 B H0 H : Hp} {os : List Ob} (h : OH K B0 B os H0 H) : Nw B0 B H0 H := by
  obtain ⟨Bp, n, m, f⟩ := h
  have keep : ∀ {p u}, B p = some u → Bp p = some u := fun {p u} hp => by
    rw [n.out p fun o ho => ⟨ne_of_none hp (n.fr o ho).1, ne_of_none hp (n.fr o ho).2⟩]
    exact hp
  refine ⟨m.a, m.b, fun p u hp => m.c p u (keep hp), fun p u hp => ?_⟩
  rcases m.d p u hp with w | w
  · exact .inl w
  · refine .inr ?_
    cases q : B p with
    | none => rfl
    | some z => rw [keep q] at w; cases w
theorem defL_ok {P : Program} {w : World} {K : PySem.W.Frag} {mg : Str → Option Value} {base : Heap} {x qual : Str} {st : Stmt} {f : Addr} {fd : FuncData} {N ps : List Str} {k : Nat} {S : OSt} (F : Fun K x qual st f fd) (sc : FnScope N ps (defScope st))
    (hbody : ∀ (cdv : Value) (A : Around) (outer : List PySem.Env) (s : Shared) (H : Hp) (E : XK), Room k (A.deeper (PyProof.Rows.envOfC qual (defScope st) s.heap.objs.size f cdv)) → PSs (cxOf (L2.CX P w) P w K mg base N qual (defScope st) f cdv A outer s H E) (defBody st) (tO K mg E S)) :
    FnOk P w K mg base (L2.CX P w) (k + 1) f fd ps (spD K mg (runL ps.length N.length S)) :=
  F.okX sc (fun vs H Q E ⟨B0, ds, _, hd, kk⟩ => by rw [hd.length]; exact (runL_go kk).1.1) fun cdv A outer s H vs Q E hr ⟨B0, ds, ex, hd, kk⟩ => by
    obtain ⟨⟨hl, hS⟩, hk⟩ := runL_go kk
    refine ⟨_, hbody cdv A outer s H E hr, B0, H, _, [], [], _, OOk.start ex hd hl, hS, ⟨fun ρ ws q => q.elim, fun d ws q os' v H0 H' e' oh dv => ?_, fun x' ws q => q.elim⟩⟩
    subst q
    exact hk v H0 H' oh.nw dv

/-! ### a def that makes an object and gives it -/
def spB (K : PySem.W.Frag) (mg : Str → Option Value) (R : List PyData → Res Fd) : Sp := fun vs H Q _ => ∃ B0 ds fd, Ex B0 H ∧ DqAll K B0 vs ds ∧ R ds = .ok fd ∧ ∀ o' B0' H', H o'.a = none → H o'.dx = none → o'.fd = fd → OH K B0 H [o'] B0' H' → Q (.ref o'.a) H'
def okNew (n m : Nat) (S : OSt) (R : List PyData → Res Fd) : Prop := ∀ ds fd, R ds = .ok fd → ds.length = n ∧ S (ds.map Sl.val ++ List.replicate (m - n) Sl.no) [] ⟨fun _ _ => False, fun d ws => ∃ a dx, d = exO a ∧ ws = [(a, dx, fd)], fun _ _ => False⟩
theorem defB_ok {P : Program} {w : World} {K : PySem.W.Frag} {mg : Str → Option Value} {base : Heap} {x qual : Str} {st : Stmt} {f : Addr} {fd : FuncData} {N ps : List Str} {k : Nat} {S : OSt} {R : List PyData → Res Fd} (hR : okNew ps.length N.length S R) (F : Fun K x qual st f fd) (sc : FnScope N ps (defScope st))
    (hbody : ∀ (cdv : Value) (A : Around) (outer : List PySem.Env) (s : Shared) (H : Hp) (E : XK), Room k (A.deeper (PyProof.Rows.envOfC qual (defScope st) s.heap.objs.size f cdv)) → PSs (cxOf (L2.CX P w) P w K mg base N qual (defScope st) f cdv A outer s H E) (defBody st) (tO K mg E S)) :
    FnOk P w K mg base (L2.CX P w) (k + 1) f fd ps (spB K mg R) :=
  F.okX sc (fun vs H Q E ⟨B0, ds, fd', _, hd, hr, _⟩ => by rw [hd.length]; exact (hR ds fd' hr).1) fun cdv A outer s H vs Q E hr ⟨B0, ds, fd', ex, hd, hr', hq⟩ => by
    obtain ⟨hl, hS⟩ := hR ds fd' hr'
    refine ⟨_, hbody cdv A outer s H E hr, B0, H, _, [], [], _, OOk.start ex hd hl, hS, ⟨fun ρ ws q => q.elim, fun d ws q os' v H0 H' e' oh dv => ?_, fun x' ws q => q.elim⟩⟩
    obtain ⟨a, dx, rfl, ew⟩ := q
    rw [ew] at e'
    obtain ⟨o', rfl, h1, h2, h3⟩ := one_at (k := fun z => z = fd') ⟨fd', e', rfl⟩
    have ev := asO_at dv (asO_ex a)
    subst ev
    rw [← h1]
    obtain ⟨Bp, n, r⟩ := id oh
    exact hq o' H0 H' (n.fr o' (by simp)).1 (n.fr o' (by simp)).2 h3 oh
def mkR (R : List PyData → Res Fd) : List PyData → Res PyData := fun ds => match R ds with
  | .ok fd => .ok (obD "Planner" fd)
  | _ => .bad
theorem FnOk.made {P : Program} {w : World} {K : PySem.W.Frag} {mg : Str → Option Value} {base : Heap} {f : Addr} {fd : FuncData} {ps : List Str} {k : Nat} {R : List PyData → Res Fd} (F : FnOk P w K mg base (L2.CX P w) k f fd ps (spB K mg R)) : FnOk P w K mg base (L2.CX P w) k f fd ps (spD K mg (mkR R)) :=
  F.imp fun vs H Q E ⟨B0, ds, ex, hd, kk⟩ => by
    unfold mkR at kk
    cases hr : R ds with
    | err x => rw [hr] at kk; exact kk.bad
    | bad => rw [hr] at kk; exact kk.bad
    | ok fd' =>
      rw [hr] at kk
      refine ⟨B0, ds, fd', ex, hd, hr, fun o' B0' H' ha hdx ef oh => ?_⟩
      have b := SOk.bornFrozen (K := K) (B0 := B0) (B := H) (H0 := B0) (H := H) (σ := []) (ρ := []) (ts := []) (o' := o') (Nw.refl ex) ⟨rfl, fun i s e ne => (by simp at e), fun i j ds es a hij e => (by simp at e)⟩ (fun p hp => nomatch hp) ha hdx oh
      obtain ⟨H0, n, s, t⟩ := b
      have dv := t (.ref o'.a, .val (obD "Planner" o'.fd)) (by simp)
      rw [ef] at dv
      exact kk.ok _ _ _ n dv

/-! ### duplicate -/
/-- the fields of the copy -/
def dupR (I : List PyData → Res Fd) : List PyData → Res Fd
  | [d] => (match fldD "graph" d, fldD "marks" d, fldD "chosen" d with
    | .ok g, .ok m, .ok c => (match I [g, m], lenD c with
      | .ok fd, .ok l => if fd.length < 700 then .ok (putD "kept" l (putD "chosen" c fd)) else .bad
      | _, _ => .bad)
    | _, _, _ => .bad)
  | _ => .bad
def dupS (I : List PyData → Res Fd) : OSt := oSeq (oSet 1 (oxNew I (eCons (eFld "graph" (eVar 0)) (eCons (eFld "marks" (eVar 0)) eNil)))) (oSeq (oFld "chosen" 1 (oxP (eFld "chosen" (eVar 0)))) (oSeq (oFld "kept" 1 (oxP (eCall (call1 lenD) (eCons (eFld "chosen" (eVar 0)) eNil)))) (oRet (oxP (eVar 1)))))
theorem len_putD (f : Str) (d : PyData) : ∀ fd : Fd, (putD f d fd).length ≤ fd.length + 1
  | [] => Nat.le_refl _
  | (g, x) :: r => by
    unfold putD
    split
    · exact Nat.le_succ _
    · rw [List.length_cons, List.length_cons]
      have := len_putD f d r
      omega
theorem dup_ok (I : List PyData → Res Fd) : okNew 1 2 (dupS I) (dupR I) := by
  intro ds fd h
  match ds with
  | [] => cases h
  | _ :: _ :: _ => cases h
  | [d] =>
    have h : (match fldD "graph" d, fldD "marks" d, fldD "chosen" d with
      | .ok g, .ok m, .ok c => (match I [g, m], lenD c with
        | .ok fd, .ok l => if fd.length < 700 then .ok (putD "kept" l (putD "chosen" c fd)) else .bad
        | _, _ => .bad)
      | _, _, _ => .bad) = Res.ok fd := h
    cases h1 : fldD "graph" d with
    | err x => rw [h1] at h; cases h
    | bad => rw [h1] at h; cases h
    | ok g =>
      cases h2 : fldD "marks" d with
      | err x => rw [h1, h2] at h; cases h
      | bad => rw [h1, h2] at h; cases h
      | ok m =>
        cases h3 : fldD "chosen" d with
        | err x => rw [h1, h2, h3] at h; cases h
        | bad => rw [h1, h2, h3] at h; cases h
        | ok c =>
          cases h4 : I [g, m] with
          | err x => rw [h1, h2, h3] at h; simp only [h4] at h; cases h
          | bad => rw [h1, h2, h3] at h; simp only [h4] at h; cases h
          | ok fd0 =>
            cases h5 : lenD c with
            | err x => rw [h1, h2, h3] at h; simp only [h4, h5] at h; cases h
            | bad => rw [h1, h2, h3] at h; simp only [h4, h5] at h; cases h
            | ok l =>
              rw [h1, h2, h3] at h
              simp only [h4, h5] at h
              split at h
              · rename_i hlen
                cases h
                refine ⟨rfl, ?_⟩
                have lk : ∀ (a dx : Addr) (fd : Fd), lkO a [(a, dx, fd)] = some fd := fun a dx fd => by unfold lkO; simp
                have st : ∀ (a dx : Addr) (fd fd' : Fd), setW [(a, dx, fd)] a fd' = [(a, dx, fd')] := fun a dx fd fd' => by unfold setW; simp
                have ea : eCons (eFld "graph" (eVar 0)) (eCons (eFld "marks" (eVar 0)) eNil) [.val d, .no] = .ok [g, m] := by
                  show ((fldD "graph" d).bind fun x => ((fldD "marks" d).bind fun x => Res.ok [x]).bind fun xs => Res.ok (x :: xs)) = _
                  rw [h1, h2]
                  rfl
                rw [show (List.map Sl.val [d] ++ List.replicate (2 - 1) Sl.no) = [Sl.val d, Sl.no] from rfl]
                unfold dupS oSeq oSet oxNew
                simp only [ea, h4]
                intro a dx _
                have e1 : slO ([.val d, .val (exO a)] : Env)[1]? = some a := asO_ex a
                have ec : eFld "chosen" (eVar 0) [.val d, .val (exO a)] = .ok c := h3
                have el : eCall (call1 lenD) (eCons (eFld "chosen" (eVar 0)) eNil) [.val d, .val (exO a)] = .ok l := by
                  show (((fldD "chosen" d).bind fun x => Res.ok [x]).bind (call1 lenD)) = _
                  rw [h3]
                  exact h5
                have l1 := len_putD "chosen" c fd0
                show oFld "chosen" 1 (oxP (eFld "chosen" (eVar 0))) [.val d, .val (exO a)] [(a, dx, fd0)] _
                unfold oFld oxP
                rw [ec]
                simp only [e1, lk]
                refine ⟨by omega, ?_⟩
                rw [st]
                rw [el]
                simp only [lk]
                refine ⟨by omega, ?_⟩
                rw [st]
                exact ⟨a, dx, rfl, rfl⟩
              · cases h
end DL

namespace DL
open PySem L2

/-! ### calls by name upon frozen objects -/
def eIsP (f : Env → Res PyData) : Env → Res PyData := fun ρ => (f ρ).bind isPD
section
variable {X : Cx} {E : XK} {pos p q : Pos} {a e : Expr}
theorem dLenO {k : Nat} {ps : List Str} {F : List PyData → Res PyData} (C : CalM X.prog X.w X.K X.mg X.base k "__len__" ps F) (hr : Room (k + 1) X.A) (T : Blt X.mg) (hg : Gl X "len") {f : Env → Res (List PyData)} (ha : PA X [a] (tAS X.K X.mg E f)) (he : starEach [a] X.env = (false, eval a X.env) :: starEach [] X.env := by rfl) (hpl : (backTo pos (starEach [] X.env)).any (·.1) = false := by rfl) :
    PE X (.Call (.Name "len" p) [a] [] pos) (tD X.K X.mg E (eCall (call1 (ownL F)) f)) := d_callB (c_lenO C hr) hg T.len PySem.boot_len ha (by decide) (by decide) he hpl
theorem dStrO {k : Nat} {ps : List Str} {F : List PyData → Res PyData} (C : CalM X.prog X.w X.K X.mg X.base k "__str__" ps F) (hr : Room (k + 2) X.A) (T : Blt X.mg) (hg : Gl X "str") {f : Env → Res (List PyData)} (ha : PA X [a] (tAS X.K X.mg E f)) (he : starEach [a] X.env = (false, eval a X.env) :: starEach [] X.env := by rfl) (hpl : (backTo pos (starEach [] X.env)).any (·.1) = false := by rfl) :
    PE X (.Call (.Name "str" p) [a] [] pos) (tD X.K X.mg E (eCall (call1 (ownS F)) f)) := d_callTy (c_strO C hr) hg T.str (by decide +kernel) ha (by decide) (by decide) he hpl
theorem dStrS (T : Blt X.mg) (hg : Gl X "str") {f : Env → Res (List PyData)} (ha : PA X [a] (tAS X.K X.mg E f)) (he : starEach [a] X.env = (false, eval a X.env) :: starEach [] X.env := by rfl) (hpl : (backTo pos (starEach [] X.env)).any (·.1) = false := by rfl) :
    PE X (.Call (.Name "str" p) [a] [] pos) (tD X.K X.mg E (eCall (call1 strS) f)) := d_callTy c_strS hg T.str (by decide +kernel) ha (by decide) (by decide) he hpl
theorem dIsP {f : Env → Res PyData} (P : PlQ X.K) (gm : X.mg "Planner" = some (.ref (plC X.K))) (T : Blt X.mg) (hg : Gl X "isinstance") (hgT : Gl X "Planner") (he : PE X e (tSh X.K X.mg E f))
    (hs : starEach [e, .Name "Planner" q] X.env = (false, eval e X.env) :: starEach [.Name "Planner" q] X.env := by rfl) (hpl : (backTo pos (starEach [.Name "Planner" q] X.env)).any (·.1) = false := by rfl) (hs2 : starEach [.Name "Planner" q] X.env = (false, eval (.Name "Planner" q) X.env) :: starEach [] X.env := by rfl) :
    PE X (.Call (.Name "isinstance" p) [e, .Name "Planner" q] [] pos) (tD X.K X.mg E (eIsP f)) := d_isP (mg := X.mg) P gm T hg hgT he hs hpl hs2
end
def plQB (K : PySem.W.Frag) : Bool := (He.Fa.cls "Planner").ok K && ((PySem.W.findIn K (.ref (plC K)) "__ne__" == some (some (.builtin "object.__ne__"))) && ((PySem.W.mroIn K (plC K) (.type "object") == some true) && ((PySem.W.findIn K (.ref (plC K)) "__class__" == some (some (.builtin "object.__class__"))) &&
  ((PySem.W.specialIn K (.builtin "object.__class__") "__get__" == some (some (.builtin "getset_descriptor.__get__"))) && ((PySem.W.takesIn K (.builtin "object.__class__") == some true) && ((PySem.W.kitOne K (.ref (plC K)) (.ref (plC K)) == some true) && ((PySem.W.kitOne K (.type "tuple") (.ref (plC K)) == some false) &&
  ((PySem.W.kitOne K (.type "str") (.ref (plC K)) == some false) && (PySem.W.notFirst K (plC K) (.type "tuple") && PySem.W.notFirst K (plC K) (.type "str"))))))))))
theorem plQ_of {K : PySem.W.Frag} (h : plQB K = true) : PlQ K := by
  obtain ⟨h1, h⟩ := He.ba h
  obtain ⟨h2, h⟩ := He.ba h
  obtain ⟨h3, h⟩ := He.ba h
  obtain ⟨h4, h⟩ := He.ba h
  obtain ⟨h5, h⟩ := He.ba h
  obtain ⟨h6, h⟩ := He.ba h
  obtain ⟨h7, h⟩ := He.ba h
  obtain ⟨h8, h⟩ := He.ba h
  obtain ⟨h9, h⟩ := He.ba h
  obtain ⟨h10, h11⟩ := He.ba h
  exact ⟨He.cls_ok h1, eq_of_beq h2, eq_of_beq h3, eq_of_beq h4, eq_of_beq h5, eq_of_beq h6, eq_of_beq h7, eq_of_beq h8, eq_of_beq h9, h10, h11⟩
end DL

namespace DL
open PySem L2

/-! ### evaluation -/
@[simp] theorem bind_ok {α β : Type} (a : α) (f : α → Res β) : (Res.ok a).bind f = f a := id rfl
@[simp] theorem bind_err {α β : Type} (x : Str) (f : α → Res β) : (Res.err x : Res α).bind f = .err x := id rfl
@[simp] theorem bind_bad {α β : Type} (f : α → Res β) : (Res.bad : Res α).bind f = .bad := id rfl
@[simp] theorem ofR_ok {α : Type} (a : α) (k : α → RS) : ofR (.ok a) k = k a := id rfl
@[simp] theorem ofR_err {α : Type} (x : Str) (k : α → RS) : ofR (.err x) k = .err x := id rfl
def slV : Option Sl → Res PyData
  | some (.val d) => .ok d
  | _ => .bad
def slS : Option Sl → Res PyData
  | some (.val d) => .ok d
  | some (.own ds) => .ok (.list ds)
  | _ => .bad
@[simp] theorem slV_val (d : PyData) : slV (some (.val d)) = .ok d := id rfl
@[simp] theorem slS_val (d : PyData) : slS (some (.val d)) = .ok d := id rfl
@[simp] theorem slS_own (ds : List PyData) : slS (some (.own ds)) = .ok (.list ds) := id rfl
@[simp] theorem ev_var (i : Nat) (ρ : Env) : eVar i ρ = slV ρ[i]? := by
  unfold eVar slV
  split <;> simp_all
@[simp] theorem ev_varS (i : Nat) (ρ : Env) : eVarS i ρ = slS ρ[i]? := by
  unfold eVarS slS
  split <;> simp_all
@[simp] theorem ev_C (d : PyData) (ρ : Env) : eC d ρ = .ok d := id rfl
@[simp] theorem ev_2 (g : PyData → PyData → Res PyData) (f1 f2 : Env → Res PyData) (ρ : Env) : e2 g f1 f2 ρ = (f1 ρ).bind fun x => (f2 ρ).bind fun y => g x y := id rfl
@[simp] theorem boolD_b (b : Bool) : boolD (.bool b) = .ok b := id rfl
@[simp] theorem truD_n : truD .none = .ok false := id rfl
@[simp] theorem truD_b (b : Bool) : truD (.bool b) = .ok b := id rfl
@[simp] theorem truD_l (xs : List PyData) : truD (.list xs) = .ok (!xs.isEmpty) := id rfl
@[simp] theorem truD_i (i : Int) : truD (.int i) = .ok (i != 0) := id rfl
@[simp] theorem ev_tst (f : Env → Res PyData) (ρ : Env) : tst f ρ = (f ρ).bind boolD := id rfl
@[simp] theorem ev_tru (f : Env → Res PyData) (ρ : Env) : tru f ρ = (f ρ).bind truD := id rfl
@[simp] theorem ev_bAnd (f g : Env → Res Bool) (ρ : Env) : bAnd f g ρ = (f ρ).bind fun x => if x = true then g ρ else .ok false := id rfl
@[simp] theorem ev_bOr (f g : Env → Res Bool) (ρ : Env) : bOr f g ρ = (f ρ).bind fun x => if x = true then .ok true else g ρ := id rfl
@[simp] theorem ev_bNot (f : Env → Res Bool) (ρ : Env) : bNot f ρ = (f ρ).bind fun x => .ok (!x) := id rfl
@[simp] theorem ev_bYes (ρ : Env) : bYes ρ = .ok true := id rfl
@[simp] theorem ev_eAnd (f g : Env → Res PyData) (ρ : Env) : eAnd f g ρ = (f ρ).bind fun x => (boolD x).bind fun c => if c = true then g ρ else .ok (.bool false) := id rfl
@[simp] theorem ev_eOr (f g : Env → Res PyData) (ρ : Env) : eOr f g ρ = (f ρ).bind fun x => (boolD x).bind fun c => if c = true then .ok (.bool true) else g ρ := id rfl
@[simp] theorem ev_eNotT (f : Env → Res PyData) (ρ : Env) : eNotT f ρ = (f ρ).bind fun d => (truD d).bind fun b => .ok (.bool !b) := id rfl
@[simp] theorem ev_eIf (c : Env → Res Bool) (f g : Env → Res PyData) (ρ : Env) : eIf c f g ρ = (c ρ).bind fun b => if b = true then f ρ else g ρ := id rfl
@[simp] theorem ev_nil (ρ : Env) : eNil ρ = .ok [] := id rfl
@[simp] theorem ev_cons (f : Env → Res PyData) (g : Env → Res (List PyData)) (ρ : Env) : eCons f g ρ = (f ρ).bind fun x => (g ρ).bind fun xs => .ok (x :: xs) := id rfl
@[simp] theorem ev_tup (f : Env → Res (List PyData)) (ρ : Env) : eTup f ρ = (f ρ).bind fun ds => (szOk ds.length).bind fun _ => .ok (.tuple ds) := id rfl
@[simp] theorem ev_lst (f : Env → Res (List PyData)) (ρ : Env) : eLst f ρ = (f ρ).bind fun ds => (szOk ds.length).bind fun _ => .ok (.list ds) := id rfl
@[simp] theorem ev_list (f : Env → Res (List PyData)) (ρ : Env) : eList f ρ = (f ρ).bind fun ds => .ok (.list ds) := id rfl
@[simp] theorem ev_call (g : List PyData → Res PyData) (f : Env → Res (List PyData)) (ρ : Env) : eCall g f ρ = (f ρ).bind g := id rfl
@[simp] theorem ev_callN (g : List PyData → Res PyData) (f : Env → Res (List PyData)) (ρ : Env) : eCallN g f ρ = (f ρ).bind fun ds => noErr (g ds) := id rfl
@[simp] theorem noErr_ok {α : Type} (a : α) : noErr (.ok a) = .ok a := id rfl
@[simp] theorem call1_1 (f : PyData → Res PyData) (x : PyData) : call1 f [x] = f x := id rfl
@[simp] theorem call2_2 (f : PyData → PyData → Res PyData) (x y : PyData) : call2 f [x, y] = f x y := id rfl
@[simp] theorem ev_neg (f : Env → Res PyData) (ρ : Env) : eNeg f ρ = (f ρ).bind negD := id rfl
@[simp] theorem negD_i (i : Int) : negD (.int i) = .ok (.int (-i)) := id rfl
@[simp] theorem ev_chain (g g' : PyData → PyData → Res PyData) (f1 f2 f3 : Env → Res PyData) (ρ : Env) : eChain g g' f1 f2 f3 ρ = (f1 ρ).bind fun x => (f2 ρ).bind fun y => (g x y).bind fun z => (boolD z).bind fun c => if c = true then (f3 ρ).bind fun w => g' y w else .ok (.bool false) := id rfl
@[simp] theorem szOk_ok {n : Nat} (h : n ≤ sizeLine) : szOk n = .ok () := if_pos h
theorem szOk_lt {n : Nat} (h : n ≤ 16000000) : szOk n = .ok () := if_pos (by rw [sizeLine_eq]; omega)
@[simp] theorem addD_i (i j : Int) : addD (.int i) (.int j) = .ok (.int (i + j)) := id rfl
@[simp] theorem addD_t (xs ys : List PyData) : addD (.tuple xs) (.tuple ys) = (szOk (xs.length + ys.length)).bind fun _ => .ok (.tuple (xs ++ ys)) := id rfl
@[simp] theorem addD_l (xs ys : List PyData) : addD (.list xs) (.list ys) = (szOk (xs.length + ys.length)).bind fun _ => .ok (.list (xs ++ ys)) := id rfl
@[simp] theorem subD_i (i j : Int) : subD (.int i) (.int j) = .ok (.int (i - j)) := id rfl
@[simp] theorem modD_i {i j : Int} (h : 0 < j) : modD (.int i) (.int j) = .ok (.int (i % j)) := if_pos h
@[simp] theorem fdivD_i {i j : Int} (h : 0 < j) (h' : j < 1073741824) : fdivD (.int i) (.int j) = .ok (.int (i / j)) := if_pos ⟨h, h'⟩
theorem mulD_r {i j : Int} (h : -(2 ^ 64) < j ∧ j < 2 ^ 64) : mulD (.int i) (.int j) = .ok (.int (i * j)) := if_pos h
theorem mulD_l {i j : Int} (h : -(2 ^ 64) < i ∧ i < 2 ^ 64) : mulD (.int i) (.int j) = .ok (.int (i * j)) := by
  show (if -(2 ^ 64) < j ∧ j < 2 ^ 64 then Res.ok (PyData.int (i * j)) else if -(2 ^ 64) < i ∧ i < 2 ^ 64 then .ok (.int (i * j)) else .bad) = _
  rw [if_pos h]
  split <;> rfl
@[simp] theorem ltD_i (i j : Int) : ltD (.int i) (.int j) = .ok (.bool (decide (i < j))) := id rfl
@[simp] theorem gtD_i (i j : Int) : gtD (.int i) (.int j) = .ok (.bool (decide (j < i))) := id rfl
@[simp] theorem leD_i (i j : Int) : leD (.int i) (.int j) = .ok (.bool (decide (i ≤ j))) := id rfl
@[simp] theorem geD_i (i j : Int) : geD (.int i) (.int j) = .ok (.bool (decide (j ≤ i))) := id rfl
@[simp] theorem eqD_i (i j : Int) : eqD (.int i) (.int j) = .ok (.bool (i == j)) := by
  unfold eqD okD
  simp [PyData.plain, PyData.depth, PyData.eqv]
@[simp] theorem neD_i (i j : Int) : neD (.int i) (.int j) = .ok (.bool (!(i == j))) := by
  unfold neD okD
  simp [PyData.plain, PyData.depth, PyData.eqv]
@[simp] theorem eqD_s (i j : Str) : eqD (.str i) (.str j) = .ok (.bool (i == j)) := by
  unfold eqD okD
  simp [PyData.plain, PyData.depth, PyData.eqv]
@[simp] theorem neD_s (i j : Str) : neD (.str i) (.str j) = .ok (.bool (!(i == j))) := by
  unfold neD okD
  simp [PyData.plain, PyData.depth, PyData.eqv]
@[simp] theorem ixD_l (xs : List PyData) (i : Int) : ixD (.list xs) (.int i) = Res.ofOpt (atI xs i) := id rfl
@[simp] theorem ixD_t (xs : List PyData) (i : Int) : ixD (.tuple xs) (.int i) = Res.ofOpt (atI xs i) := id rfl
@[simp] theorem ofOpt_s {α : Type} (a : α) : Res.ofOpt (some a) = .ok a := id rfl
theorem atI_nat {α : Type} (xs : List α) (i : Nat) : atI xs (i : Int) = xs[i]? := by
  unfold atI ixN
  rw [if_pos (by omega)]
  by_cases h : i < xs.length
  · rw [if_pos (by omega)]
    show xs[((i : Int)).toNat]? = _
    rw [Int.toNat_natCast]
  · rw [if_neg (by omega), List.getElem?_eq_none (by omega)]
    rfl
theorem atI_pos {α : Type} (xs : List α) {i : Int} (h : 0 ≤ i) : atI xs i = xs[i.toNat]? := by
  have e : ((i.toNat : Nat) : Int) = i := Int.toNat_of_nonneg h
  have q := atI_nat xs i.toNat
  rw [e] at q
  exact q
@[simp] theorem atI_0 {α : Type} (x : α) (xs : List α) : atI (x :: xs) 0 = some x := atI_nat (x :: xs) 0
@[simp] theorem atI_1 {α : Type} (x y : α) (xs : List α) : atI (x :: y :: xs) 1 = some y := atI_nat (x :: y :: xs) 1
@[simp] theorem atI_2 {α : Type} (x y z : α) (xs : List α) : atI (x :: y :: z :: xs) 2 = some z := atI_nat (x :: y :: z :: xs) 2
theorem atI_last {α : Type} (xs : List α) (x : α) : atI (xs ++ [x]) (-1) = some x := by
  unfold atI ixN
  rw [if_neg (by omega), if_pos (by rw [List.length_append, List.length_singleton]; omega)]
  have e : ((-1 : Int) + ((xs ++ [x]).length : Int)).toNat = xs.length := by rw [List.length_append, List.length_singleton]; omega
  show (xs ++ [x])[((-1 : Int) + ((xs ++ [x]).length : Int)).toNat]? = _
  rw [e]
  simp
@[simp] theorem lenD_l (xs : List PyData) : lenD (.list xs) = .ok (.int xs.length) := id rfl
@[simp] theorem lenD_t (xs : List PyData) : lenD (.tuple xs) = .ok (.int xs.length) := id rfl
@[simp] theorem lenD_s (ns : List Int) : lenD (scrD ns) = .ok (.int ns.length) := by
  show (if scrB (ns.map fun n => (PyData.int n, PyData.none)) = true then Res.ok (PyData.int (ns.map fun n => (PyData.int n, PyData.none)).length) else .bad) = _
  rw [if_pos (scrB_map ns)]
  show Res.ok (PyData.int (ns.map _).length) = _
  rw [List.length_map]
@[simp] theorem min2D_i (i j : Int) : min2D (.int i) (.int j) = .ok (.int (if j < i then j else i)) := id rfl
@[simp] theorem max2D_i (i j : Int) : max2D (.int i) (.int j) = .ok (.int (if j > i then j else i)) := id rfl
@[simp] theorem tupD_l (xs : List PyData) : tupD (.list xs) = .ok (.tuple xs) := id rfl
@[simp] theorem tupD_t (xs : List PyData) : tupD (.tuple xs) = .ok (.tuple xs) := id rfl
@[simp] theorem lstD_l (xs : List PyData) : lstD (.list xs) = .ok (.list xs) := id rfl
@[simp] theorem lstD_t (xs : List PyData) : lstD (.tuple xs) = .ok (.list xs) := id rfl
@[simp] theorem ev_isi (h : PyData → Bool) (f : Env → Res PyData) (ρ : Env) : eIsi h f ρ = (f ρ).bind fun d => (notScr d).bind fun _ => .ok (.bool (h d)) := id rfl
@[simp] theorem notScr_i (i : Int) : notScr (.int i) = .ok () := id rfl
@[simp] theorem notScr_n : notScr .none = .ok () := id rfl
@[simp] theorem notScr_b (b : Bool) : notScr (.bool b) = .ok () := id rfl
@[simp] theorem notScr_s (x : Str) : notScr (.str x) = .ok () := id rfl
@[simp] theorem notScr_l (xs : List PyData) : notScr (.list xs) = .ok () := id rfl
@[simp] theorem notScr_t (xs : List PyData) : notScr (.tuple xs) = .ok () := id rfl
@[simp] theorem ev_sl (f : Env → Res PyData) (l u : Env → Res (Option Int)) (ρ : Env) : eSl f l u ρ = (f ρ).bind fun x => (l ρ).bind fun lo => (u ρ).bind fun hi => slD x lo hi := id rfl
@[simp] theorem ev_oNone (ρ : Env) : oNone ρ = .ok none := id rfl
@[simp] theorem ev_oSome (f : Env → Res PyData) (ρ : Env) : oSome f ρ = (f ρ).bind fun d => (intD d).bind fun i => .ok (some i) := id rfl
@[simp] theorem intD_i (i : Int) : intD (.int i) = .ok i := id rfl
@[simp] theorem slD_l (xs : List PyData) (lo hi : Option Int) : slD (.list xs) lo hi = .ok (.list (cutD xs lo hi)) := id rfl
@[simp] theorem slD_t (xs : List PyData) (lo hi : Option Int) : slD (.tuple xs) lo hi = .ok (.tuple (cutD xs lo hi)) := id rfl
theorem cut_from {α : Type} (xs : List α) (k : Nat) : cutD xs (some (k : Int)) none = xs.drop k := by
  unfold cutD HT.sIx
  simp only
  rw [if_neg (by omega), Int.toNat_natCast]
  by_cases h : k ≤ xs.length
  · rw [Nat.min_eq_left h, List.take_of_length_le]
    rw [List.length_drop]
    exact Nat.le_refl _
  · rw [Nat.min_eq_right (by omega), List.drop_length, List.take_nil, List.drop_of_length_le (by omega)]
@[simp] theorem cut_1 {α : Type} (xs : List α) : cutD xs (some 1) none = xs.drop 1 := cut_from xs 1
theorem cut_to {α : Type} (xs : List α) (k : Nat) : cutD xs none (some (k : Int)) = xs.take k := by
  unfold cutD HT.sIx
  simp only
  rw [if_neg (by omega), Int.toNat_natCast, Nat.sub_zero, List.drop_zero]
  by_cases h : k ≤ xs.length
  · rw [Nat.min_eq_left h]
  · rw [Nat.min_eq_right (by omega), List.take_length, List.take_of_length_le (by omega)]
@[simp] theorem ev_iSeq (f : Env → Res PyData) (ρ : Env) : iSeq f ρ = (f ρ).bind seqD := id rfl
@[simp] theorem seqD_l (xs : List PyData) : seqD (.list xs) = .ok xs := id rfl
@[simp] theorem seqD_t (xs : List PyData) : seqD (.tuple xs) = .ok xs := id rfl
@[simp] theorem ev_rng1 (f : Env → Res (List PyData)) (ρ : Env) : iRng1D f ρ = (f ρ).bind rng1D := id rfl
@[simp] theorem ev_rng2 (f : Env → Res (List PyData)) (ρ : Env) : iRng2D f ρ = (f ρ).bind rng2D := id rfl
@[simp] theorem ev_zip (f : Env → Res (List PyData)) (ρ : Env) : iZipD f ρ = (f ρ).bind zipD := id rfl
/-- the whole numbers from lo below hi -/
def irange (lo hi : Int) : List Int := (List.range (hi - lo).toNat).map fun (i : Nat) => lo + (i : Int)
theorem rng_is {lo hi : Int} (h1 : -1000000 ≤ lo) (h2 : lo ≤ 1000000) (h3 : -1000000 ≤ hi) (h4 : hi ≤ 1000000) : rngD lo hi = .ok ((irange lo hi).map .int) := by
  unfold rngD irange
  rw [if_pos (by rw [sizeLine_eq]; omega), List.map_map]
  rfl
theorem rng1_is {hi : Int} (h3 : -1000000 ≤ hi) (h4 : hi ≤ 1000000) : rng1D [.int hi] = .ok ((irange 0 hi).map .int) := rng_is (by omega) (by omega) h3 h4
theorem rng2_is {lo hi : Int} (h1 : -1000000 ≤ lo) (h2 : lo ≤ 1000000) (h3 : -1000000 ≤ hi) (h4 : hi ≤ 1000000) : rng2D [.int lo, .int hi] = .ok ((irange lo hi).map .int) := rng_is h1 h2 h3 h4
theorem mem_irange {lo hi k : Int} : k ∈ irange lo hi ↔ lo ≤ k ∧ k < hi := by
  unfold irange
  rw [List.mem_map]
  constructor
  · rintro ⟨i, hi, rfl⟩
    rw [List.mem_range] at hi
    omega
  · intro h
    exact ⟨(k - lo).toNat, by rw [List.mem_range]; omega, by omega⟩
/-! statements -/
@[simp] theorem ev_sNil (ρ : Env) : sNil ρ = .nx ρ := id rfl
def seqR (T : Env → RS) : RS → RS
  | .nx ρ' => T ρ'
  | .ret d => .ret d
  | .brk ρ' => .brk ρ'
  | .cnt ρ' => .cnt ρ'
  | .err x => .err x
  | .bad => .bad
@[simp] theorem seqR_nx (T : Env → RS) (ρ : Env) : seqR T (.nx ρ) = T ρ := id rfl
@[simp] theorem seqR_ret (T : Env → RS) (d : PyData) : seqR T (.ret d) = .ret d := id rfl
@[simp] theorem seqR_err (T : Env → RS) (d : Str) : seqR T (.err d) = .err d := id rfl
@[simp] theorem ev_seq (S T : Env → RS) (ρ : Env) : sSeq S T ρ = seqR T (S ρ) := by
  unfold sSeq seqR
  cases S ρ <;> rfl
@[simp] theorem ev_sIf (c : Env → Res Bool) (S T : Env → RS) (ρ : Env) : sIf c S T ρ = ofR (c ρ) fun b => if b = true then S ρ else T ρ := id rfl
@[simp] theorem ev_sRet (f : Env → Res PyData) (ρ : Env) : sRet f ρ = ofR (f ρ) .ret := id rfl
@[simp] theorem ev_sRetN (ρ : Env) : sRetN ρ = .ret .none := id rfl
def slR : Option Sl → RS
  | some (.own ds) => .ret (.list ds)
  | some (.val d) => .ret d
  | _ => .bad
@[simp] theorem slR_own (ds : List PyData) : slR (some (.own ds)) = .ret (.list ds) := id rfl
@[simp] theorem ev_sRetO (i : Nat) (ρ : Env) : sRetO i ρ = slR ρ[i]? := by
  unfold sRetO slR
  split <;> simp_all
@[simp] theorem ev_sExpr (f : Env → Res PyData) (ρ : Env) : sExpr f ρ = ofR (f ρ) fun _ => .nx ρ := id rfl
@[simp] theorem ev_sSet (i : Nat) (f : Env → Res PyData) (ρ : Env) : sSet i f ρ = ofR (f ρ) fun d => .nx (ρ.set i (.val d)) := id rfl
@[simp] theorem ev_sSetF (i : Nat) (f : Env → Res (List PyData)) (ρ : Env) : sSetF i f ρ = ofR (f ρ) fun d => .nx (ρ.set i (.own d)) := id rfl
@[simp] theorem ev_sSetL (i : Nat) (f : Env → Res (List PyData)) (ρ : Env) : sSetL i f ρ = ofR (f ρ) fun d => .nx (ρ.set i (.val (.list d))) := id rfl
@[simp] theorem ev_sForget (i : Nat) (S : Env → RS) (ρ : Env) : sForget i S ρ = S (ρ.set i .no) := id rfl
@[simp] theorem ev_sFor (it : Env → Res (List PyData)) (g : PyData → Env → Option Env) (S : Env → RS) (ρ : Env) : sFor it g S ρ = ofR (it ρ) fun ds => loop g S ds ρ := id rfl
@[simp] theorem ev_raise (x : Str) (ρ : Env) : sRaise x ρ = .err x := id rfl
def appR (i : Nat) (r : Res PyData) (ρ : Env) : Option Sl → RS
  | some (.own ds) => ofR r fun d => if ds.length < sizeLine then .nx (ρ.set i (.own (ds ++ [d]))) else .bad
  | _ => .bad
@[simp] theorem ev_app (i : Nat) (f : Env → Res PyData) (ρ : Env) : sApp i f ρ = appR i (f ρ) ρ ρ[i]? := by
  unfold sApp appR
  split <;> simp_all
theorem appR_own {i : Nat} {d : PyData} {ρ : Env} {ds : List PyData} (h : ds.length < 16000000) : appR i (.ok d) ρ (some (.own ds)) = .nx (ρ.set i (.own (ds ++ [d]))) := by
  show (if ds.length < sizeLine then _ else _) = _
  rw [if_pos (by rw [sizeLine_eq]; omega)]
def runR : RS → Res PyData
  | .nx _ => .ok .none
  | .ret d => .ok d
  | .err x => .err x
  | _ => .bad
@[simp] theorem runR_ret (d : PyData) : runR (.ret d) = .ok d := id rfl
@[simp] theorem runR_nx (ρ : Env) : runR (.nx ρ) = .ok .none := id rfl
@[simp] theorem runR_err (x : Str) : runR (.err x) = .err x := id rfl
theorem ev_run {n m : Nat} {S : Env → RS} {ds : List PyData} (h : ds.length = n) : runF n m S ds = runR (S (ds.map Sl.val ++ List.replicate (m - n) Sl.no)) := by
  unfold runF
  rw [if_pos h]
  unfold runR
  split <;> simp_all
@[simp] theorem ev_gN (i : Nat) (d : PyData) (ρ : Env) : gN i d ρ = some (ρ.set i (.val d)) := id rfl
@[simp] theorem ev_gN2 (i j : Nat) (x y : PyData) (ρ : Env) : gN2 i j (.tuple [x, y]) ρ = some ((ρ.set i (.val x)).set j (.val y)) := id rfl
@[simp] theorem ev_gN2p (i j : Nat) (x y : PyData) (ρ : Env) : gN2 i j (pr2 x y) ρ = some ((ρ.set i (.val x)).set j (.val y)) := id rfl
@[simp] theorem isNo_no : isNo (some .no) = true := id rfl
@[simp] theorem ev_lcA (j : Nat) (it : Env → Res (List PyData)) (c : Env → Res Bool) (f : Env → Res PyData) (ρ : Env) : eLcA j it c f ρ = (it ρ).bind fun ds => if isNo ρ[j]? = true then comp (gN j) c f ρ ds else .bad := id rfl
@[simp] theorem ev_lcB (i j : Nat) (it : Env → Res (List PyData)) (c : Env → Res Bool) (f : Env → Res PyData) (ρ : Env) : eLcB i j it c f ρ = (it ρ).bind fun ds => if (isNo ρ[i]? && isNo ρ[j]?) = true then comp (gN2 i j) c f ρ ds else .bad := id rfl
/-! ### comprehensions and loops over typed lists -/
theorem comp_is {α : Type} {enc : α → PyData} {g : PyData → Env → Option Env} {c : Env → Res Bool} {f : Env → Res PyData} {ρ : Env} (p : α → Bool) (q : α → PyData) : ∀ {xs : List α}, (∀ x ∈ xs, ∃ ρ1, g (enc x) ρ = some ρ1 ∧ c ρ1 = .ok (p x) ∧ (p x = true → f ρ1 = .ok (q x))) →
    comp g c f ρ (xs.map enc) = .ok ((xs.filter p).map q)
  | [], _ => rfl
  | x :: xs, h => by
    obtain ⟨ρ1, h1, h2, h3⟩ := h x (by simp)
    have ih := comp_is p q fun y hy => h y (List.mem_cons_of_mem _ hy)
    rw [List.map_cons, comp, h1]
    simp only [h2, bind_ok, ih]
    cases hp : p x with
    | true => simp [h3 hp, hp]
    | false => simp [hp]
theorem comp_all {α : Type} {enc : α → PyData} {g : PyData → Env → Option Env} {f : Env → Res PyData} {ρ : Env} (q : α → PyData) {xs : List α} (h : ∀ x ∈ xs, ∃ ρ1, g (enc x) ρ = some ρ1 ∧ f ρ1 = .ok (q x)) :
    comp g bYes f ρ (xs.map enc) = .ok (xs.map q) := by
  have := comp_is (enc := enc) (g := g) (c := bYes) (f := f) (ρ := ρ) (fun _ => true) q (xs := xs) fun x hx => let ⟨ρ1, h1, h2⟩ := h x hx; ⟨ρ1, h1, rfl, fun _ => h2⟩
  rw [this, List.filter_eq_self.mpr (fun _ _ => rfl)]
/-- a loop that ends each turn: the environment is told by a state and the last item -/
theorem loop_is {α β : Type} {enc : α → PyData} {g : PyData → Env → Option Env} {S : Env → RS} (en : β → Option α → Env) (step : β → α → β) : ∀ {xs : List α} {b : β} {o : Option α}, (∀ (pre : List α) (x : α) (post : List α) (o : Option α), xs = pre ++ x :: post → ∃ ρ1, g (enc x) (en (pre.foldl step b) o) = some ρ1 ∧ S ρ1 = .nx (en (step (pre.foldl step b) x) (some x))) →
    ∃ o', loop g S (xs.map enc) (en b o) = .nx (en (xs.foldl step b) o')
  | [], b, o, _ => ⟨o, rfl⟩
  | x :: xs, b, o, h => by
    obtain ⟨ρ1, h1, h2⟩ := h [] x xs o rfl
    have h1 : g (enc x) (en b o) = some ρ1 := h1
    have h2 : S ρ1 = .nx (en (step b x) (some x)) := h2
    obtain ⟨o', ih⟩ := loop_is en step (xs := xs) (b := step b x) (o := some x) fun pre y post o e => h (x :: pre) y post o (by rw [e]; rfl)
    refine ⟨o', ?_⟩
    rw [List.map_cons, loop, h1]
    simp only [h2]
    rw [ih]
    rfl
/-- a loop with an invariant of the environment: never left early -/
theorem loop_inv {α : Type} {enc : α → PyData} {g : PyData → Env → Option Env} {S : Env → RS} (I : List α → Env → Prop) : ∀ {xs : List α} {pre : List α} {ρ : Env}, I pre ρ → (∀ (p : List α) (x : α) (ρ : Env), I p ρ → x ∈ xs → ∃ ρ1 ρ2, g (enc x) ρ = some ρ1 ∧ S ρ1 = .nx ρ2 ∧ I (p ++ [x]) ρ2) →
    ∃ ρ', loop g S (xs.map enc) ρ = .nx ρ' ∧ I (pre ++ xs) ρ'
  | [], pre, ρ, h, _ => ⟨ρ, rfl, by rw [List.append_nil]; exact h⟩
  | x :: xs, pre, ρ, h, hs => by
    obtain ⟨ρ1, ρ2, h1, h2, h3⟩ := hs pre x ρ h (by simp)
    obtain ⟨ρ', e, hI⟩ := loop_inv I (xs := xs) (pre := pre ++ [x]) (ρ := ρ2) h3 fun p y ρ hp hy => hs p y ρ hp (List.mem_cons_of_mem _ hy)
    refine ⟨ρ', ?_, by rw [List.append_assoc] at hI; exact hI⟩
    rw [List.map_cons, loop, h1]
    simp only [h2]
    exact e
/-- one turn -/
def turn (g : PyData → Env → Option Env) (S : Env → RS) (d : PyData) (ρ : Env) : RS := match g d ρ with
  | some ρ1 => S ρ1
  | none => .bad
@[simp] theorem turn_gN (i : Nat) (S : Env → RS) (d : PyData) (ρ : Env) : turn (gN i) S d ρ = S (ρ.set i (.val d)) := id rfl
@[simp] theorem turn_gN2 (i j : Nat) (S : Env → RS) (x y : PyData) (ρ : Env) : turn (gN2 i j) S (.tuple [x, y]) ρ = S ((ρ.set i (.val x)).set j (.val y)) := id rfl
@[simp] theorem turn_gN2p (i j : Nat) (S : Env → RS) (x y : PyData) (ρ : Env) : turn (gN2 i j) S (pr2 x y) ρ = S ((ρ.set i (.val x)).set j (.val y)) := id rfl
theorem loop_go {α : Type} {enc : α → PyData} {g : PyData → Env → Option Env} {S : Env → RS} (I : Nat → Env → Prop) : ∀ {xs : List α} {k : Nat} {ρ : Env}, I k ρ → (∀ (i : Nat) (x : α) (ρ : Env), xs[i]? = some x → I (k + i) ρ → ∃ ρ2, turn g S (enc x) ρ = .nx ρ2 ∧ I (k + i + 1) ρ2) →
    ∃ ρ', loop g S (xs.map enc) ρ = .nx ρ' ∧ I (k + xs.length) ρ'
  | [], k, ρ, h, _ => ⟨ρ, rfl, h⟩
  | x :: xs, k, ρ, h, hs => by
    obtain ⟨ρ2, h2, h3⟩ := hs 0 x ρ rfl h
    obtain ⟨ρ', e, hI⟩ := loop_go I (xs := xs) (k := k + 1) (ρ := ρ2) h3 fun i y ρ hy hp => by
      have e1 : k + 1 + i = k + (i + 1) := by omega
      rw [e1] at hp ⊢
      exact hs (i + 1) y ρ (by simpa using hy) hp
    refine ⟨ρ', ?_, by rw [List.length_cons, show k + (xs.length + 1) = k + 1 + xs.length from by omega]; exact hI⟩
    unfold turn at h2
    rw [List.map_cons, loop]
    cases hg : g (enc x) ρ with
    | none => rw [hg] at h2; cases h2
    | some ρ1 =>
      rw [hg] at h2
      simp only [h2]
      exact e
/-- .. from the beginning -/
theorem loop_from {α : Type} {enc : α → PyData} {g : PyData → Env → Option Env} {S : Env → RS} (I : Nat → Env → Prop) {xs : List α} {ρ : Env} (h0 : I 0 ρ) (hs : ∀ (i : Nat) (x : α) (ρ : Env), xs[i]? = some x → I i ρ → ∃ ρ2, turn g S (enc x) ρ = .nx ρ2 ∧ I (i + 1) ρ2) :
    ∃ ρ', loop g S (xs.map enc) ρ = .nx ρ' ∧ I xs.length ρ' := by
  obtain ⟨ρ', h1, h2⟩ := loop_go I (xs := xs) (k := 0) (ρ := ρ) h0 fun i x ρ hx hI => by
    rw [Nat.zero_add] at hI ⊢
    exact hs i x ρ hx hI
  exact ⟨ρ', h1, by rw [Nat.zero_add] at h2; exact h2⟩
@[simp] theorem atI_3 {α : Type} (x0 x1 x2 x3 : α) (xs : List α) : atI (x0 :: x1 :: x2 :: x3 :: xs) 3 = some x3 := atI_nat (x0 :: x1 :: x2 :: x3 :: xs) 3
@[simp] theorem atI_4 {α : Type} (x0 x1 x2 x3 x4 : α) (xs : List α) : atI (x0 :: x1 :: x2 :: x3 :: x4 :: xs) 4 = some x4 := atI_nat (x0 :: x1 :: x2 :: x3 :: x4 :: xs) 4
@[simp] theorem atI_5 {α : Type} (x0 x1 x2 x3 x4 x5 : α) (xs : List α) : atI (x0 :: x1 :: x2 :: x3 :: x4 :: x5 :: xs) 5 = some x5 := atI_nat (x0 :: x1 :: x2 :: x3 :: x4 :: x5 :: xs) 5
@[simp] theorem atI_6 {α : Type} (x0 x1 x2 x3 x4 x5 x6 : α) (xs : List α) : atI (x0 :: x1 :: x2 :: x3 :: x4 :: x5 :: x6 :: xs) 6 = some x6 := atI_nat (x0 :: x1 :: x2 :: x3 :: x4 :: x5 :: x6 :: xs) 6
@[simp] theorem atI_7 {α : Type} (x0 x1 x2 x3 x4 x5 x6 x7 : α) (xs : List α) : atI (x0 :: x1 :: x2 :: x3 :: x4 :: x5 :: x6 :: x7 :: xs) 7 = some x7 := atI_nat (x0 :: x1 :: x2 :: x3 :: x4 :: x5 :: x6 :: x7 :: xs) 7
@[simp] theorem atI_8 {α : Type} (x0 x1 x2 x3 x4 x5 x6 x7 x8 : α) (xs : List α) : atI (x0 :: x1 :: x2 :: x3 :: x4 :: x5 :: x6 :: x7 :: x8 :: xs) 8 = some x8 := atI_nat (x0 :: x1 :: x2 :: x3 :: x4 :: x5 :: x6 :: x7 :: x8 :: xs) 8
@[simp] theorem atI_9 {α : Type} (x0 x1 x2 x3 x4 x5 x6 x7 x8 x9 : α) (xs : List α) : atI (x0 :: x1 :: x2 :: x3 :: x4 :: x5 :: x6 :: x7 :: x8 :: x9 :: xs) 9 = some x9 := atI_nat (x0 :: x1 :: x2 :: x3 :: x4 :: x5 :: x6 :: x7 :: x8 :: x9 :: xs) 9
@[simp] theorem atI_10 {α : Type} (x0 x1 x2 x3 x4 x5 x6 x7 x8 x9 x10 : α) (xs : List α) : atI (x0 :: x1 :: x2 :: x3 :: x4 :: x5 :: x6 :: x7 :: x8 :: x9 :: x10 :: xs) 10 = some x10 := atI_nat (x0 :: x1 :: x2 :: x3 :: x4 :: x5 :: x6 :: x7 :: x8 :: x9 :: x10 :: xs) 10
@[simp] theorem atI_11 {α : Type} (x0 x1 x2 x3 x4 x5 x6 x7 x8 x9 x10 x11 : α) (xs : List α) : atI (x0 :: x1 :: x2 :: x3 :: x4 :: x5 :: x6 :: x7 :: x8 :: x9 :: x10 :: x11 :: xs) 11 = some x11 := atI_nat (x0 :: x1 :: x2 :: x3 :: x4 :: x5 :: x6 :: x7 :: x8 :: x9 :: x10 :: x11 :: xs) 11
@[simp] theorem atI_12 {α : Type} (x0 x1 x2 x3 x4 x5 x6 x7 x8 x9 x10 x11 x12 : α) (xs : List α) : atI (x0 :: x1 :: x2 :: x3 :: x4 :: x5 :: x6 :: x7 :: x8 :: x9 :: x10 :: x11 :: x12 :: xs) 12 = some x12 := atI_nat (x0 :: x1 :: x2 :: x3 :: x4 :: x5 :: x6 :: x7 :: x8 :: x9 :: x10 :: x11 :: x12 :: xs) 12
@[simp] theorem atI_13 {α : Type} (x0 x1 x2 x3 x4 x5 x6 x7 x8 x9 x10 x11 x12 x13 : α) (xs : List α) : atI (x0 :: x1 :: x2 :: x3 :: x4 :: x5 :: x6 :: x7 :: x8 :: x9 :: x10 :: x11 :: x12 :: x13 :: xs) 13 = some x13 := atI_nat (x0 :: x1 :: x2 :: x3 :: x4 :: x5 :: x6 :: x7 :: x8 :: x9 :: x10 :: x11 :: x12 :: x13 :: xs) 13
def tryR (hs : List (Str × PyData)) : RS → RS
  | .err x => (match hs.lookup x with
    | some d => .ret d
    | none => .bad)
  | r => r
@[simp] theorem ev_try (hs : List (Str × PyData)) (S : Env → RS) (ρ : Env) : sTry hs S ρ = tryR hs (S ρ) := by
  unfold sTry tryR
  cases S ρ <;> rfl
@[simp] theorem tryR_ret (hs : List (Str × PyData)) (d : PyData) : tryR hs (.ret d) = .ret d := id rfl
@[simp] theorem tryR_nx (hs : List (Str × PyData)) (ρ : Env) : tryR hs (.nx ρ) = .nx ρ := id rfl
@[simp] theorem tryR_1 (x : Str) (d : PyData) (hs : List (Str × PyData)) : tryR ((x, d) :: hs) (.err x) = .ret d := by
  show (match ((x, d) :: hs).lookup x with
    | some d => RS.ret d
    | none => .bad) = _
  rw [List.lookup_cons, beq_self_eq_true]
theorem tryR_2 {x y : Str} (d : PyData) (hs : List (Str × PyData)) (h : (x == y) = false) : tryR ((y, d) :: hs) (.err x) = tryR hs (.err x) := by
  show (match ((y, d) :: hs).lookup x with
    | some d => RS.ret d
    | none => .bad) = _
  rw [List.lookup_cons, h]
  rfl
def extR (i : Nat) (r : Res PyData) (ρ : Env) : Option Sl → RS
  | some (.own ds) => ofR r fun d => match d with
    | .list es => if ds.length + es.length ≤ sizeLine then .nx (ρ.set i (.own (ds ++ es))) else .bad
    | _ => .bad
  | _ => .bad
@[simp] theorem ev_ext (i : Nat) (f : Env → Res PyData) (ρ : Env) : sExt i f ρ = extR i (f ρ) ρ ρ[i]? := by
  unfold sExt extR
  cases ρ[i]? with
  | none => rfl
  | some s => cases s <;> rfl
theorem extR_own {i : Nat} {es : List PyData} {ρ : Env} {ds : List PyData} (h : ds.length + es.length ≤ 16000000) : extR i (.ok (.list es)) ρ (some (.own ds)) = .nx (ρ.set i (.own (ds ++ es))) := by
  show (if ds.length + es.length ≤ sizeLine then _ else _) = _
  rw [if_pos (by rw [sizeLine_eq]; omega)]
@[simp] theorem ev_enum (f : Env → Res (List PyData)) (ρ : Env) : iEnumD f ρ = (f ρ).bind enumD := id rfl
@[simp] theorem ev_LO (f : Env → Res (List PyData)) (ρ : Env) : eLO f ρ = (f ρ).bind fun ds => (szOk ds.length).bind fun _ => .ok ds := id rfl
/-! J -/
@[simp] theorem ofJ_ok {α : Type} (a : α) (k : α → RJ) : ofJ (.ok a) k = k a := id rfl
@[simp] theorem ev_jNil (ρ : Env) : jNil ρ = .nx ρ := id rfl
@[simp] theorem ev_jRet (ρ : Env) : jRet ρ = .rn ρ := id rfl
def seqJ (T : Env → RJ) : RJ → RJ
  | .nx ρ' => T ρ'
  | .rn ρ' => .rn ρ'
  | .bad => .bad
@[simp] theorem seqJ_nx (T : Env → RJ) (ρ : Env) : seqJ T (.nx ρ) = T ρ := id rfl
@[simp] theorem seqJ_rn (T : Env → RJ) (ρ : Env) : seqJ T (.rn ρ) = .rn ρ := id rfl
@[simp] theorem ev_jSeq (S T : Env → RJ) (ρ : Env) : jSeq S T ρ = seqJ T (S ρ) := by
  unfold jSeq seqJ
  cases S ρ <;> rfl
@[simp] theorem ev_jIf (c : Env → Res Bool) (S T : Env → RJ) (ρ : Env) : jIf c S T ρ = ofJ (c ρ) fun b => if b = true then S ρ else T ρ := id rfl
def asgJ (o : Option Env) : RJ := match o with
  | some ρ' => .nx ρ'
  | none => .bad
@[simp] theorem asgJ_s (ρ : Env) : asgJ (some ρ) = .nx ρ := id rfl
@[simp] theorem ev_jAsg (g : PyData → Env → Option Env) (f : Env → Res PyData) (ρ : Env) : jAsg g f ρ = ofJ (f ρ) fun d => asgJ (g d ρ) := id rfl
def putJ (i : Nat) (r : Res PyData) (ρ : Env) : Option Sl → RJ
  | some (.own [_]) => ofJ r fun d => .nx (ρ.set i (.own [d]))
  | _ => .bad
@[simp] theorem putJ_1 (i : Nat) (d x : PyData) (ρ : Env) : putJ i (.ok d) ρ (some (.own [x])) = .nx (ρ.set i (.own [d])) := id rfl
@[simp] theorem ev_jPut (i : Nat) (f : Env → Res PyData) (ρ : Env) : jPut i f ρ = putJ i (f ρ) ρ ρ[i]? := by
  unfold jPut putJ
  split <;> simp_all
def callJ (i : Nat) (F : List PyData → List PyData → Res (List PyData)) (r : Res (List PyData)) (ρ : Env) : Option Sl → RJ
  | some (.own os) => ofJ r fun ds => ofJ (F ds os) fun es => .nx (ρ.set i (.own es))
  | _ => .bad
@[simp] theorem callJ_own (i : Nat) (F : List PyData → List PyData → Res (List PyData)) (r : Res (List PyData)) (ρ : Env) (os : List PyData) : callJ i F r ρ (some (.own os)) = ofJ r fun ds => ofJ (F ds os) fun es => .nx (ρ.set i (.own es)) := id rfl
@[simp] theorem ev_jCall (i : Nat) (F : List PyData → List PyData → Res (List PyData)) (f : Env → Res (List PyData)) (ρ : Env) : jCall i F f ρ = callJ i F (f ρ) ρ ρ[i]? := by
  unfold jCall callJ
  split <;> simp_all
def callO (i : Nat) (F : List PyData → List PyData → Res (List PyData)) (r : Res (List PyData)) (ρ : Env) : Option Sl → RS
  | some (.own os) => ofR r fun ds => (match F ds os with
    | .ok es => .nx (ρ.set i (.own es))
    | _ => .bad)
  | _ => .bad
theorem callO_own {i : Nat} {F : List PyData → List PyData → Res (List PyData)} {ds os es : List PyData} {ρ : Env} (h : F ds os = .ok es) : callO i F (.ok ds) ρ (some (.own os)) = .nx (ρ.set i (.own es)) := by
  show (match F ds os with
    | .ok es => RS.nx (ρ.set i (.own es))
    | _ => .bad) = _
  rw [h]
@[simp] theorem ev_callO (i : Nat) (F : List PyData → List PyData → Res (List PyData)) (f : Env → Res (List PyData)) (ρ : Env) : sCallO i F f ρ = callO i F (f ρ) ρ ρ[i]? := by
  unfold sCallO callO
  cases ρ[i]? with
  | none => rfl
  | some s => cases s <;> rfl
@[simp] theorem ev_jFor (it : Env → Res (List PyData)) (g : PyData → Env → Option Env) (S : Env → RJ) (ρ : Env) : jFor it g S ρ = ofJ (it ρ) fun ds => jLoop g S ds ρ := id rfl
theorem rng2_big {lo hi : Int} (h1 : 0 ≤ lo) (h2 : lo ≤ 16000000) (h3 : 0 ≤ hi) (h4 : hi ≤ 16000000) : rng2D [.int lo, .int hi] = .ok ((irange lo hi).map .int) := by
  show rngD lo hi = _
  unfold rngD irange
  rw [if_pos (by rw [sizeLine_eq]; omega), List.map_map]
  rfl
@[simp] theorem ev_ssetP (f : Env → Res PyData) (ρ : Env) : eSortedSetP f ρ = (f ρ).bind fun d => match setP d with
  | some es => .ok (.list ((usortP es).map pE))
  | none => .bad := id rfl
theorem setP_l {es : List Pr} (h : es.length < 64) (k : ∀ e ∈ es, (0 ≤ e.1 ∧ e.1 < 64) ∧ (0 ≤ e.2 ∧ e.2 < 64)) : setP (.list (es.map pE)) = some es := by
  show ((prsOf (es.map pE)).bind fun es => if es.length < 64 ∧ smallP es = true then some es else none) = _
  rw [prsOf_map]
  refine if_pos ⟨h, List.all_eq_true.mpr fun e he => ?_⟩
  have := k e he
  simpa using this
end DL

namespace DL
open PySem L2

/-! ### typed data -/
abbrev Ed := Int × Int
def dE (e : Ed) : PyData := .tuple [.int e.1, .int e.2]
def dT (ns : List Int) : PyData := .tuple (ns.map .int)
def dL (ns : List Int) : PyData := .list (ns.map .int)
def dEs (es : List Ed) : PyData := .tuple (es.map dE)
def dG (n : Int) (es : List Ed) : PyData := .tuple [.int n, dEs es]
section
variable {α : Type} {enc : α → PyData} {xs ys : List α}
theorem plainAll_map (h : ∀ x ∈ xs, (enc x).plain = true) : PyData.plainAll (xs.map enc) = true := by
  induction xs with
  | nil => rfl
  | cons x xs ih =>
    rw [List.map_cons, PyData.plainAll, h x (by simp), ih fun y hy => h y (List.mem_cons_of_mem _ hy)]
    rfl
theorem depthAll_map {n : Nat} (h : ∀ x ∈ xs, (enc x).depth ≤ n) : PyData.depthAll (xs.map enc) ≤ n := by
  induction xs with
  | nil => exact Nat.zero_le _
  | cons x xs ih =>
    rw [List.map_cons, PyData.depthAll]
    exact Nat.max_le.mpr ⟨h x (by simp), ih fun y hy => h y (List.mem_cons_of_mem _ hy)⟩
theorem eqvAll_map [DecidableEq α] (h : ∀ x y, PyData.eqv (enc x) (enc y) = decide (x = y)) : ∀ (xs ys : List α), PyData.eqvAll (xs.map enc) (ys.map enc) = decide (xs = ys)
  | [], [] => by simp [PyData.eqvAll]
  | [], _ :: _ => by simp [PyData.eqvAll]
  | _ :: _, [] => by simp [PyData.eqvAll]
  | x :: xs, y :: ys => by
    rw [List.map_cons, List.map_cons, PyData.eqvAll, h, eqvAll_map h xs ys]
    by_cases h1 : x = y <;> by_cases h2 : xs = ys <;> simp [h1, h2]
theorem any_map [DecidableEq α] (h : ∀ x y, PyData.eqv (enc x) (enc y) = decide (x = y)) (k : α) : ∀ (xs : List α), ((xs.map enc).any fun y => PyData.eqv y (enc k)) = decide (k ∈ xs)
  | [] => by simp
  | x :: xs => by
    rw [List.map_cons, List.any_cons, h, any_map h k xs]
    by_cases h1 : x = k
    · subst h1; simp
    · have h2 : ¬ k = x := fun z => h1 z.symm
      simp [h1, h2]
theorem okD_seqL {n : Nat} (h : ∀ x ∈ xs, (enc x).plain = true ∧ (enc x).depth ≤ n) (hn : n < 60) : okD (.list (xs.map enc)) = true := by
  unfold okD
  have h1 : PyData.plainAll (xs.map enc) = true := plainAll_map fun x hx => (h x hx).1
  have h2 : PyData.depthAll (xs.map enc) ≤ n := depthAll_map fun x hx => (h x hx).2
  rw [PyData.plain, PyData.depth, h1, Bool.true_and, decide_eq_true_eq]
  omega
theorem okD_seqT {n : Nat} (h : ∀ x ∈ xs, (enc x).plain = true ∧ (enc x).depth ≤ n) (hn : n < 60) : okD (.tuple (xs.map enc)) = true := by
  unfold okD
  have h1 : PyData.plainAll (xs.map enc) = true := plainAll_map fun x hx => (h x hx).1
  have h2 : PyData.depthAll (xs.map enc) ≤ n := depthAll_map fun x hx => (h x hx).2
  rw [PyData.plain, PyData.depth, h1, Bool.true_and, decide_eq_true_eq]
  omega
end
theorem inD_seqT {α : Type} [DecidableEq α] {enc : α → PyData} (h : ∀ x y, PyData.eqv (enc x) (enc y) = decide (x = y)) (hp : ∀ x, okD (enc x) = true) (k : α) (xs : List α) : inD (enc k) (.tuple (xs.map enc)) = .ok (.bool (decide (k ∈ xs))) := by
  unfold inD inB
  simp only
  rw [if_pos ⟨plainAll_map fun x _ => okD_plain (hp x), hp k⟩, any_map h]
theorem inD_seqL {α : Type} [DecidableEq α] {enc : α → PyData} (h : ∀ x y, PyData.eqv (enc x) (enc y) = decide (x = y)) (hp : ∀ x, okD (enc x) = true) (k : α) (xs : List α) : inD (enc k) (.list (xs.map enc)) = .ok (.bool (decide (k ∈ xs))) := by
  unfold inD inB
  simp only
  rw [if_pos ⟨plainAll_map fun x _ => okD_plain (hp x), hp k⟩, any_map h]
theorem niD_seqT {α : Type} [DecidableEq α] {enc : α → PyData} (h : ∀ x y, PyData.eqv (enc x) (enc y) = decide (x = y)) (hp : ∀ x, okD (enc x) = true) (k : α) (xs : List α) : niD (enc k) (.tuple (xs.map enc)) = .ok (.bool !(decide (k ∈ xs))) := by
  unfold niD inB
  simp only
  rw [if_pos ⟨plainAll_map fun x _ => okD_plain (hp x), hp k⟩, any_map h]
theorem niD_seqL {α : Type} [DecidableEq α] {enc : α → PyData} (h : ∀ x y, PyData.eqv (enc x) (enc y) = decide (x = y)) (hp : ∀ x, okD (enc x) = true) (k : α) (xs : List α) : niD (enc k) (.list (xs.map enc)) = .ok (.bool !(decide (k ∈ xs))) := by
  unfold niD inB
  simp only
  rw [if_pos ⟨plainAll_map fun x _ => okD_plain (hp x), hp k⟩, any_map h]
/-! ints -/
theorem eqv_int (x y : Int) : PyData.eqv (.int x) (.int y) = decide (x = y) := by
  rw [PyData.eqv]
  by_cases h : x = y <;> simp [h]
@[simp] theorem okD_int (x : Int) : okD (.int x) = true := id rfl
@[simp] theorem okD_none : okD .none = true := id rfl
@[simp] theorem okD_bool (b : Bool) : okD (.bool b) = true := id rfl
@[simp] theorem okD_str (b : Str) : okD (.str b) = true := id rfl
@[simp] theorem inT (k : Int) (ns : List Int) : inD (.int k) (.tuple (ns.map .int)) = .ok (.bool (decide (k ∈ ns))) := inD_seqT eqv_int okD_int k ns
@[simp] theorem inL (k : Int) (ns : List Int) : inD (.int k) (.list (ns.map .int)) = .ok (.bool (decide (k ∈ ns))) := inD_seqL eqv_int okD_int k ns
@[simp] theorem niT (k : Int) (ns : List Int) : niD (.int k) (.tuple (ns.map .int)) = .ok (.bool !(decide (k ∈ ns))) := niD_seqT eqv_int okD_int k ns
@[simp] theorem niL (k : Int) (ns : List Int) : niD (.int k) (.list (ns.map .int)) = .ok (.bool !(decide (k ∈ ns))) := niD_seqL eqv_int okD_int k ns
theorem ints_ok (ns : List Int) : ∀ x ∈ ns, (PyData.int x).plain = true ∧ (PyData.int x).depth ≤ 0 := fun _ _ => ⟨rfl, Nat.le_refl _⟩
@[simp] theorem okD_tup (ns : List Int) : okD (.tuple (ns.map .int)) = true := okD_seqT (ints_ok ns) (by decide)
@[simp] theorem okD_lst (ns : List Int) : okD (.list (ns.map .int)) = true := okD_seqL (ints_ok ns) (by decide)
theorem eqv_tup (x y : List Int) : PyData.eqv (.tuple (x.map .int)) (.tuple (y.map .int)) = decide (x = y) := by rw [PyData.eqv]; exact eqvAll_map eqv_int x y
theorem eqv_lst (x y : List Int) : PyData.eqv (.list (x.map .int)) (.list (y.map .int)) = decide (x = y) := by rw [PyData.eqv]; exact eqvAll_map eqv_int x y
@[simp] theorem eqD_tup (x y : List Int) : eqD (.tuple (x.map .int)) (.tuple (y.map .int)) = .ok (.bool (decide (x = y))) := by unfold eqD; rw [if_pos ⟨okD_tup x, okD_tup y⟩, eqv_tup]
@[simp] theorem eqD_lst (x y : List Int) : eqD (.list (x.map .int)) (.list (y.map .int)) = .ok (.bool (decide (x = y))) := by unfold eqD; rw [if_pos ⟨okD_lst x, okD_lst y⟩, eqv_lst]
@[simp] theorem neD_tup (x y : List Int) : neD (.tuple (x.map .int)) (.tuple (y.map .int)) = .ok (.bool !(decide (x = y))) := by unfold neD; rw [if_pos ⟨okD_tup x, okD_tup y⟩, eqv_tup]
@[simp] theorem neD_lst (x y : List Int) : neD (.list (x.map .int)) (.list (y.map .int)) = .ok (.bool !(decide (x = y))) := by unfold neD; rw [if_pos ⟨okD_lst x, okD_lst y⟩, eqv_lst]
/-! edges -/
theorem dE_is (e : Ed) : dE e = .tuple (([e.1, e.2] : List Int).map .int) := rfl
theorem eqv_dE (x y : Ed) : PyData.eqv (dE x) (dE y) = decide (x = y) := by
  rw [dE_is, dE_is, eqv_tup]
  obtain ⟨a, b⟩ := x
  obtain ⟨c, d⟩ := y
  simp
@[simp] theorem okD_dE (e : Ed) : okD (dE e) = true := okD_tup [e.1, e.2]
@[simp] theorem in_dE (k : Int) (e : Ed) : inD (.int k) (dE e) = .ok (.bool (decide (k = e.1 ∨ k = e.2))) := by
  rw [dE_is, inT]
  simp
theorem dE_ok (es : List Ed) : ∀ x ∈ es, (dE x).plain = true ∧ (dE x).depth ≤ 1 := fun e _ => ⟨rfl, by simp [dE, PyData.depth, PyData.depthAll]⟩
@[simp] theorem okD_dEs (es : List Ed) : okD (dEs es) = true := okD_seqT (dE_ok es) (by decide)
@[simp] theorem in_dEs (e : Ed) (es : List Ed) : inD (dE e) (.tuple (es.map dE)) = .ok (.bool (decide (e ∈ es))) := by
  rw [inD_seqT eqv_dE okD_dE e es]
  by_cases h : e ∈ es <;> simp [h]
@[simp] theorem ni_dEs (e : Ed) (es : List Ed) : niD (dE e) (.tuple (es.map dE)) = .ok (.bool !(decide (e ∈ es))) := by
  rw [niD_seqT eqv_dE okD_dE e es]
  by_cases h : e ∈ es <;> simp [h]
@[simp] theorem eqD_dE (x y : Ed) : eqD (dE x) (dE y) = .ok (.bool (decide (x = y))) := by unfold eqD; rw [if_pos ⟨okD_dE x, okD_dE y⟩, eqv_dE]
@[simp] theorem neD_dE (x y : Ed) : neD (dE x) (dE y) = .ok (.bool !(decide (x = y))) := by unfold neD; rw [if_pos ⟨okD_dE x, okD_dE y⟩, eqv_dE]
/-! order -/
def ltE (x y : Ed) : Bool := decide (x.1 < y.1) || (decide (x.1 = y.1) && decide (x.2 < y.2))
/-- the order of rows of ints -/
def ltL : List Int → List Int → Bool
  | [], [] => false
  | [], _ :: _ => true
  | _ :: _, [] => false
  | x :: xs, y :: ys => decide (x < y) || (decide (x = y) && ltL xs ys)
theorem dataLt_int (x y : Int) : PySem.W.dataLt (.int x) (.int y) = decide (x < y) := by
  unfold PySem.W.dataLt
  simp [PySem.W.keyToks, PyProof.Rows.lexLt, PyProof.Rows.itemLt]
theorem dataLt_tup : ∀ (xs ys : List Int), PySem.W.dataLt (.tuple (xs.map .int)) (.tuple (ys.map .int)) = ltL xs ys := by
  have key : ∀ (xs ys : List Int), PyProof.Rows.lexLt PyProof.Rows.itemOrd (PySem.W.keyToksAll (xs.map .int)) (PySem.W.keyToksAll (ys.map .int)) = ltL xs ys := by
    intro xs
    induction xs with
    | nil =>
      intro ys
      cases ys with
      | nil => simp [PySem.W.keyToksAll, PyProof.Rows.lexLt, PyProof.Rows.itemLt, ltL]
      | cons y ys => simp [PySem.W.keyToksAll, PyProof.Rows.lexLt, PyProof.Rows.itemLt, ltL]
    | cons x xs ih =>
      intro ys
      cases ys with
      | nil => simp [PySem.W.keyToksAll, PyProof.Rows.lexLt, PyProof.Rows.itemLt, ltL]
      | cons y ys =>
        rw [List.map_cons, List.map_cons, PySem.W.keyToksAll, PySem.W.keyToksAll]
        simp only [PySem.W.keyToks, List.cons_append, List.nil_append, PyProof.Rows.lexLt, PyProof.Rows.itemLt, ih, ltL]
        rcases Int.lt_trichotomy x y with h | h | h
        · simp [h, Int.not_lt.mpr (Int.le_of_lt h)]
        · subst h; simp
        · have h1 : ¬ x < y := by omega
          have h2 : ¬ x = y := by omega
          simp [h, h1, h2]
  intro xs ys
  exact key xs ys
theorem dataLt_dE (x y : Ed) : PySem.W.dataLt (dE x) (dE y) = ltE x y := by
  rw [dE_is, dE_is, dataLt_tup]
  simp [ltL, ltE]
theorem alike_int (x y : Int) : PySem.W.alike (.int x) (.int y) = true := rfl
theorem alikeAll_ints : ∀ (xs ys : List Int), PySem.W.alikeAll (xs.map .int) (ys.map .int) = true
  | [], _ => by simp [PySem.W.alikeAll]
  | _ :: _, [] => by simp [PySem.W.alikeAll]
  | x :: xs, y :: ys => by rw [List.map_cons, List.map_cons, PySem.W.alikeAll, alikeAll_ints xs ys]; rfl
theorem alike_tup (xs ys : List Int) : PySem.W.alike (.tuple (xs.map .int)) (.tuple (ys.map .int)) = true := by rw [PySem.W.alike]; exact alikeAll_ints xs ys
theorem alike_dE (x y : Ed) : PySem.W.alike (dE x) (dE y) = true := alike_tup [x.1, x.2] [y.1, y.2]
@[simp] theorem gtD_dE (x y : Ed) : gtD (dE x) (dE y) = .ok (.bool (ltE y x)) := by
  rw [gtD_ne (by rintro ⟨i, j, h, _⟩; cases h)]
  unfold ordD
  rw [if_pos ⟨okD_dE x, okD_dE y, alike_dE x y, rfl⟩]
  show Res.ok (PyData.bool (PySem.W.dataLt (dE y) (dE x))) = _
  rw [dataLt_dE]
theorem le_data (x y : PyData) : PySem.W.dataLe false id x y = !PySem.W.dataLt y x := by
  unfold PySem.W.dataLe PySem.W.dataLt
  rfl
theorem srt_map {α : Type} {enc : α → PyData} {lt : α → α → Bool} (h : ∀ x y, PySem.W.dataLt (enc x) (enc y) = lt x y) (xs : List α) : srt (xs.map enc) = (xs.mergeSort fun x y => !lt y x).map enc := by
  unfold srt
  refine (List.map_mergeSort (r := fun x y => !lt y x) (s := PySem.W.dataLe false id) (f := enc) (l := xs) fun a _ b _ => ?_).symm
  rw [le_data, h]
theorem alikeB_map {α : Type} {enc : α → PyData} (h : ∀ x y, PySem.W.alike (enc x) (enc y) = true) (xs : List α) : alikeB (xs.map enc) = true := by
  unfold alikeB
  simp [h]
def sortI (xs : List Int) : List Int := xs.mergeSort fun x y => !decide (y < x)
def sortE (xs : List Ed) : List Ed := xs.mergeSort fun x y => !ltE y x
theorem sortB_int (ns : List Int) : sortB (ns.map .int) = true := by
  unfold sortB
  have h1 : PyData.plainAll (ns.map .int) = true := plainAll_map fun x _ => rfl
  have h2 : PyData.depthAll (ns.map .int) ≤ 0 := depthAll_map fun x _ => Nat.le_refl _
  have h3 : (ns.map PyData.int).all plainK = true := by simp [plainK]
  have h4 : decide (PyData.depthAll (ns.map .int) ≤ 64) = true := decide_eq_true (by omega)
  rw [h1, alikeB_map alike_int, h3, h4]
  simp
theorem sortB_dE (es : List Ed) : sortB (es.map dE) = true := by
  unfold sortB
  have h1 : PyData.plainAll (es.map dE) = true := plainAll_map fun x _ => okD_plain (okD_dE x)
  have h2 : PyData.depthAll (es.map dE) ≤ 1 := depthAll_map fun x hx => (dE_ok es x hx).2
  have h3 : (es.map dE).all tup1 = true := by simp [tup1, dE]
  have h4 : decide (PyData.depthAll (es.map dE) ≤ 64) = true := decide_eq_true (by omega)
  rw [h1, alikeB_map alike_dE, h3, h4]
  simp
@[simp] theorem sortedD_int (ns : List Int) : sortedD (.list (ns.map .int)) = .ok (.list ((sortI ns).map .int)) := by
  show (if sortB (ns.map .int) = true then _ else _) = _
  rw [if_pos (sortB_int ns), srt_map dataLt_int]
  rfl
@[simp] theorem sortedD_intT (ns : List Int) : sortedD (.tuple (ns.map .int)) = .ok (.list ((sortI ns).map .int)) := by
  show (if sortB (ns.map .int) = true then _ else _) = _
  rw [if_pos (sortB_int ns), srt_map dataLt_int]
  rfl
@[simp] theorem sortedD_dE (es : List Ed) : sortedD (.list (es.map dE)) = .ok (.list ((sortE es).map dE)) := by
  show (if sortB (es.map dE) = true then _ else _) = _
  rw [if_pos (sortB_dE es), srt_map dataLt_dE]
  rfl
@[simp] theorem sortedD_dET (es : List Ed) : sortedD (.tuple (es.map dE)) = .ok (.list ((sortE es).map dE)) := by
  show (if sortB (es.map dE) = true then _ else _) = _
  rw [if_pos (sortB_dE es), srt_map dataLt_dE]
  rfl
theorem ltE_trans {x y z : Ed} (h1 : (!ltE y x) = true) (h2 : (!ltE z y) = true) : (!ltE z x) = true := by
  obtain ⟨a, b⟩ := x
  obtain ⟨c, d⟩ := y
  obtain ⟨e, f⟩ := z
  simp [ltE] at h1 h2 ⊢
  omega
theorem ltE_total (x y : Ed) : (!ltE y x || !ltE x y) = true := by
  obtain ⟨a, b⟩ := x
  obtain ⟨c, d⟩ := y
  simp [ltE]
  omega
theorem sortE_perm (es : List Ed) : (sortE es).Perm es := List.mergeSort_perm es _
theorem sortE_sorted (es : List Ed) : (sortE es).Pairwise fun x y => ltE y x = false := by
  have h := List.pairwise_mergeSort (le := fun x y => !ltE y x) (fun a b c h1 h2 => ltE_trans h1 h2) (fun a b => ltE_total a b) es
  exact h.imp fun h => by simpa using h
theorem sortI_perm (ns : List Int) : (sortI ns).Perm ns := List.mergeSort_perm ns _
theorem sortI_sorted (ns : List Int) : (sortI ns).Pairwise (· ≤ ·) := by
  have h := List.pairwise_mergeSort (le := fun x y : Int => !decide (y < x)) (fun a b c h1 h2 => by simp at *; omega) (fun a b => by simp; omega) ns
  exact h.imp fun h => by simpa using h
/-! sets -/
@[simp] theorem ev_sset (f : Env → Res PyData) (ρ : Env) : eSortedSet f ρ = (f ρ).bind fun d => match setI d with
  | some ns => .ok (.list ((usort ns).map .int))
  | none => .bad := id rfl
@[simp] theorem ev_lset (f : Env → Res PyData) (ρ : Env) : eLenSet f ρ = (f ρ).bind fun d => match setI d with
  | some ns => .ok (.int (usort ns).length)
  | none => .bad := id rfl
theorem setI_l {ns : List Int} (h : ns.length < 64) : setI (.list (ns.map .int)) = some ns := by
  show ((intsOf (ns.map .int)).bind fun ns => if ns.length < 64 then some ns else none) = _
  rw [intsOf_map]
  exact if_pos h
theorem setI_t {ns : List Int} (h : ns.length < 64) : setI (.tuple (ns.map .int)) = some ns := by
  show ((intsOf (ns.map .int)).bind fun ns => if ns.length < 64 then some ns else none) = _
  rw [intsOf_map]
  exact if_pos h
/-! pairs of neighbors -/
theorem zipD_t (xs ys : List PyData) : zipD [.tuple xs, .tuple ys] = .ok (List.zipWith pr2 xs ys) := rfl
theorem zip_map {α : Type} (enc : α → PyData) : ∀ (xs ys : List α), List.zipWith pr2 (xs.map enc) (ys.map enc) = (xs.zip ys).map fun p => pr2 (enc p.1) (enc p.2)
  | [], _ => by simp
  | _ :: _, [] => by simp
  | x :: xs, y :: ys => by simp [zip_map enc xs ys]
end DL

namespace DL
open PySem L2

/-! ### rows of ints, and what is built of them -/
theorem eqv_dT (x y : List Int) : PyData.eqv (dT x) (dT y) = decide (x = y) := eqv_tup x y
@[simp] theorem okD_dT (x : List Int) : okD (dT x) = true := okD_tup x
theorem dT_ok (xs : List (List Int)) : ∀ x ∈ xs, (dT x).plain = true ∧ (dT x).depth ≤ 1 := fun x _ => ⟨okD_plain (okD_tup x), by
  have h := depthAll_map (xs := x) (enc := PyData.int) (n := 0) fun _ _ => Nat.le_refl _
  show PyData.depthAll (x.map .int) + 1 ≤ 1
  omega⟩
@[simp] theorem eqD_dT (x y : List Int) : eqD (dT x) (dT y) = .ok (.bool (decide (x = y))) := eqD_tup x y
@[simp] theorem neD_dT (x y : List Int) : neD (dT x) (dT y) = .ok (.bool !(decide (x = y))) := neD_tup x y
@[simp] theorem okD_dTs (xs : List (List Int)) : okD (.tuple (xs.map dT)) = true := okD_seqT (dT_ok xs) (by decide)
@[simp] theorem okD_dTl (xs : List (List Int)) : okD (.list (xs.map dT)) = true := okD_seqL (dT_ok xs) (by decide)
theorem eqv_dTs (x y : List (List Int)) : PyData.eqv (.tuple (x.map dT)) (.tuple (y.map dT)) = decide (x = y) := by rw [PyData.eqv]; exact eqvAll_map eqv_dT x y
@[simp] theorem eqD_dTs (x y : List (List Int)) : eqD (.tuple (x.map dT)) (.tuple (y.map dT)) = .ok (.bool (decide (x = y))) := by unfold eqD; rw [if_pos ⟨okD_dTs x, okD_dTs y⟩, eqv_dTs]
@[simp] theorem neD_dTs (x y : List (List Int)) : neD (.tuple (x.map dT)) (.tuple (y.map dT)) = .ok (.bool !(decide (x = y))) := by unfold neD; rw [if_pos ⟨okD_dTs x, okD_dTs y⟩, eqv_dTs]
theorem alike_dT (x y : List Int) : PySem.W.alike (dT x) (dT y) = true := alike_tup x y
theorem dataLt_dT (x y : List Int) : PySem.W.dataLt (dT x) (dT y) = ltL x y := dataLt_tup x y
def sortL (xs : List (List Int)) : List (List Int) := xs.mergeSort fun x y => !ltL y x
theorem sortB_dT {xs : List (List Int)} (h : ∀ x ∈ xs, x ≠ []) : sortB (xs.map dT) = true := by
  unfold sortB
  have h1 : PyData.plainAll (xs.map dT) = true := plainAll_map fun x hx => (dT_ok xs x hx).1
  have h2 : PyData.depthAll (xs.map dT) ≤ 1 := depthAll_map fun x hx => (dT_ok xs x hx).2
  have h3 : (xs.map dT).all tup1 = true := by
    rw [List.all_eq_true]
    intro d hd
    obtain ⟨x, hx, rfl⟩ := List.mem_map.mp hd
    cases x with
    | nil => exact absurd rfl (h [] hx)
    | cons a x => rfl
  have h4 : decide (PyData.depthAll (xs.map dT) ≤ 64) = true := decide_eq_true (by omega)
  rw [h1, alikeB_map alike_dT, h3, h4]
  simp
theorem sortedD_dT {xs : List (List Int)} (h : ∀ x ∈ xs, x ≠ []) : sortedD (.list (xs.map dT)) = .ok (.list ((sortL xs).map dT)) := by
  show (if sortB (xs.map dT) = true then _ else _) = _
  rw [if_pos (sortB_dT h), srt_map dataLt_dT]
  rfl
theorem sortedD_dTt {xs : List (List Int)} (h : ∀ x ∈ xs, x ≠ []) : sortedD (.tuple (xs.map dT)) = .ok (.list ((sortL xs).map dT)) := by
  show (if sortB (xs.map dT) = true then _ else _) = _
  rw [if_pos (sortB_dT h), srt_map dataLt_dT]
  rfl
theorem sortL_perm (xs : List (List Int)) : (sortL xs).Perm xs := List.mergeSort_perm xs _
theorem ltL_irr : ∀ x : List Int, ltL x x = false
  | [] => rfl
  | a :: x => by simp [ltL, ltL_irr x]
theorem ltL_trans : ∀ {x y z : List Int}, ltL x y = true → ltL y z = true → ltL x z = true
  | [], _, [], _, h => by
    cases ‹List Int› <;> simp [ltL] at h
  | [], _, _ :: _, _, _ => rfl
  | _ :: _, [], _, h, _ => by simp [ltL] at h
  | _ :: _, _ :: _, [], _, h => by simp [ltL] at h
  | a :: x, b :: y, c :: z, h1, h2 => by
    simp only [ltL, Bool.or_eq_true, decide_eq_true_eq, Bool.and_eq_true] at h1 h2 ⊢
    rcases h1 with h1 | ⟨h1, k1⟩
    · rcases h2 with h2 | ⟨h2, _⟩
      · exact .inl (by omega)
      · exact .inl (by omega)
    · rcases h2 with h2 | ⟨h2, k2⟩
      · exact .inl (by omega)
      · exact .inr ⟨by omega, ltL_trans k1 k2⟩
theorem ltL_tri : ∀ (x y : List Int), ltL x y = true ∨ x = y ∨ ltL y x = true
  | [], [] => .inr (.inl rfl)
  | [], _ :: _ => .inl rfl
  | _ :: _, [] => .inr (.inr rfl)
  | a :: x, b :: y => by
    simp only [ltL, Bool.or_eq_true, decide_eq_true_eq, Bool.and_eq_true]
    rcases Int.lt_trichotomy a b with h | h | h
    · exact .inl (.inl h)
    · subst h
      rcases ltL_tri x y with h | h | h
      · exact .inl (.inr ⟨rfl, h⟩)
      · exact .inr (.inl (by rw [h]))
      · exact .inr (.inr (.inr ⟨rfl, h⟩))
    · exact .inr (.inr (.inl h))
/-! keys: a number, a number, a row -/
abbrev Ky := Int × Int × List Int
def dK (k : Ky) : PyData := .tuple [.int k.1, .int k.2.1, dT k.2.2]
def ltK (x y : Ky) : Bool := decide (x.1 < y.1) || (decide (x.1 = y.1) && (decide (x.2.1 < y.2.1) || (decide (x.2.1 = y.2.1) && ltL x.2.2 y.2.2)))
theorem lex_more (c : List (Int ⊕ List Nat)) (hc : PyProof.Rows.lexLt PyProof.Rows.itemOrd c c = false) : ∀ (xs ys : List Int), PyProof.Rows.lexLt PyProof.Rows.itemOrd (PySem.W.keyToksAll (xs.map .int) ++ c) (PySem.W.keyToksAll (ys.map .int) ++ c) = ltL xs ys := by
  intro xs
  induction xs with
  | nil =>
    intro ys
    cases ys with
    | nil => simp [PySem.W.keyToksAll, PyProof.Rows.lexLt, PyProof.Rows.itemLt, ltL, hc]
    | cons y ys => simp [PySem.W.keyToksAll, PyProof.Rows.lexLt, PyProof.Rows.itemLt, ltL]
  | cons x xs ih =>
    intro ys
    cases ys with
    | nil => simp [PySem.W.keyToksAll, PyProof.Rows.lexLt, PyProof.Rows.itemLt, ltL]
    | cons y ys =>
      rw [List.map_cons, List.map_cons, PySem.W.keyToksAll, PySem.W.keyToksAll]
      simp only [PySem.W.keyToks, List.cons_append, List.nil_append, PyProof.Rows.lexLt, PyProof.Rows.itemLt, ih, ltL]
      rcases Int.lt_trichotomy x y with h | h | h
      · simp [h, Int.not_lt.mpr (Int.le_of_lt h)]
      · subst h; simp
      · have h1 : ¬ x < y := by omega
        have h2 : ¬ x = y := by omega
        simp [h, h1, h2]
theorem dataLt_dK (x y : Ky) : PySem.W.dataLt (dK x) (dK y) = ltK x y := by
  obtain ⟨a, b, s⟩ := x
  obtain ⟨c, d, t⟩ := y
  have q := lex_more [.inl 0] (by simp [PyProof.Rows.lexLt, PyProof.Rows.itemLt]) s t
  unfold PySem.W.dataLt dK dT
  simp only [PySem.W.keyToks, PySem.W.keyToksAll, List.cons_append, List.nil_append, PyProof.Rows.lexLt, PyProof.Rows.itemLt, q, ltK]
  rcases Int.lt_trichotomy a c with h | h | h
  · simp [h, Int.not_lt.mpr (Int.le_of_lt h)]
  · subst h
    rcases Int.lt_trichotomy b d with h | h | h
    · simp [h, Int.not_lt.mpr (Int.le_of_lt h)]
    · subst h; simp
    · have h1 : ¬ b < d := by omega
      have h2 : ¬ b = d := by omega
      simp [h, h1, h2]
  · have h1 : ¬ a < c := by omega
    have h2 : ¬ a = c := by omega
    simp [h, h1, h2]
theorem alike_dK (x y : Ky) : PySem.W.alike (dK x) (dK y) = true := by
  have h := alike_dT x.2.2 y.2.2
  simp [dK, PySem.W.alike, PySem.W.alikeAll, h]
theorem dK_ok (xs : List Ky) : ∀ x ∈ xs, (dK x).plain = true ∧ (dK x).depth ≤ 2 := fun x hx => by
  obtain ⟨h1, h2⟩ := dT_ok [x.2.2] x.2.2 (by simp)
  refine ⟨?_, ?_⟩
  · simp [dK, PyData.plain, PyData.plainAll, h1]
  · simp [dK, PyData.depth, PyData.depthAll]
    omega
@[simp] theorem okD_dK (x : Ky) : okD (dK x) = true := by
  obtain ⟨h1, h2⟩ := dK_ok [x] x (by simp)
  unfold okD
  rw [h1, Bool.true_and, decide_eq_true_eq]
  omega
@[simp] theorem ltD_dK (x y : Ky) : ltD (dK x) (dK y) = .ok (.bool (ltK x y)) := by
  rw [ltD_ne (by rintro ⟨i, j, h, _⟩; cases h)]
  unfold ordD
  rw [if_pos ⟨okD_dK x, okD_dK y, alike_dK x y, rfl⟩, dataLt_dK]
theorem ltK_irr (x : Ky) : ltK x x = false := by simp [ltK, ltL_irr]
theorem ltK_trans {x y z : Ky} (h1 : ltK x y = true) (h2 : ltK y z = true) : ltK x z = true := by
  obtain ⟨a, b, s⟩ := x
  obtain ⟨c, d, t⟩ := y
  obtain ⟨e, f, u⟩ := z
  simp only [ltK, Bool.or_eq_true, decide_eq_true_eq, Bool.and_eq_true] at h1 h2 ⊢
  rcases h1 with h1 | ⟨h1, k1⟩
  · rcases h2 with h2 | ⟨h2, _⟩ <;> exact .inl (by omega)
  · rcases h2 with h2 | ⟨h2, k2⟩
    · exact .inl (by omega)
    · refine .inr ⟨by omega, ?_⟩
      rcases k1 with k1 | ⟨k1, m1⟩
      · rcases k2 with k2 | ⟨k2, _⟩ <;> exact .inl (by omega)
      · rcases k2 with k2 | ⟨k2, m2⟩
        · exact .inl (by omega)
        · exact .inr ⟨by omega, ltL_trans m1 m2⟩
theorem ltK_tri (x y : Ky) : ltK x y = true ∨ x = y ∨ ltK y x = true := by
  obtain ⟨a, b, s⟩ := x
  obtain ⟨c, d, t⟩ := y
  simp only [ltK, Bool.or_eq_true, decide_eq_true_eq, Bool.and_eq_true]
  rcases Int.lt_trichotomy a c with h | h | h
  · exact .inl (.inl h)
  · subst h
    rcases Int.lt_trichotomy b d with h | h | h
    · exact .inl (.inr ⟨rfl, .inl h⟩)
    · subst h
      rcases ltL_tri s t with h | h | h
      · exact .inl (.inr ⟨rfl, .inr ⟨rfl, h⟩⟩)
      · exact .inr (.inl (by rw [h]))
      · exact .inr (.inr (.inr ⟨rfl, .inr ⟨rfl, h⟩⟩))
    · exact .inr (.inr (.inr ⟨rfl, .inl h⟩))
  · exact .inr (.inr (.inl h))
/-- the first of the least -/
def minK (x : Ky) (xs : List Ky) : Ky := xs.foldl (fun a y => if ltK y a = true then y else a) x
theorem minK_spec : ∀ (xs : List Ky) (x : Ky), minK x xs ∈ x :: xs ∧ ∀ y ∈ x :: xs, ltK y (minK x xs) = false
  | [], x => ⟨by simp [minK], fun y hy => by rw [List.mem_singleton.mp hy]; exact ltK_irr x⟩
  | y :: xs, x => by
    obtain ⟨h1, h2⟩ := minK_spec xs (if ltK y x = true then y else x)
    have e : minK x (y :: xs) = minK (if ltK y x = true then y else x) xs := rfl
    rw [e]
    refine ⟨?_, fun z hz => ?_⟩
    · rcases List.mem_cons.mp h1 with h | h
      · rw [h]
        split <;> simp
      · exact List.mem_cons_of_mem _ (List.mem_cons_of_mem _ h)
    · have h0 := h2 (if ltK y x = true then y else x) (by simp)
      have low : ∀ z, ltK z (if ltK y x = true then y else x) = false → ltK z (minK (if ltK y x = true then y else x) xs) = false := fun z hz => by
        cases q : ltK z (minK (if ltK y x = true then y else x) xs) with
        | false => rfl
        | true =>
          rcases ltK_tri (minK (if ltK y x = true then y else x) xs) (if ltK y x = true then y else x) with k | k | k
          · rw [ltK_trans q k] at hz; cases hz
          · rw [k, hz] at q; cases q
          · rw [k] at h0; cases h0
      rcases List.mem_cons.mp hz with e2 | hz
      · subst e2
        refine low z ?_
        split
        · rename_i k
          cases q : ltK z y with
          | false => rfl
          | true => have := ltK_trans q k; rw [ltK_irr] at this; cases this
        · exact ltK_irr z
      · rcases List.mem_cons.mp hz with e2 | hz
        · subst e2
          refine low z ?_
          split
          · exact ltK_irr z
          · rename_i k; simpa using k
        · exact h2 z (List.mem_cons_of_mem _ hz)
theorem least_unique {k k' : Ky} {xs ys : List Ky} (h1 : k ∈ xs) (h2 : ∀ y ∈ xs, ltK y k = false) (h1' : k' ∈ ys) (h2' : ∀ y ∈ ys, ltK y k' = false) (m : ∀ y, y ∈ xs ↔ y ∈ ys) : k = k' := by
  rcases ltK_tri k k' with h | h | h
  · rw [h2' k ((m k).mp h1)] at h; cases h
  · exact h
  · rw [h2 k' ((m k').mpr h1')] at h; cases h
theorem minD_dK : ∀ (xs : List Ky) (x : Ky), PySem.W.minD (dK x) (xs.map dK) = dK (minK x xs)
  | [], x => rfl
  | y :: xs, x => by
    have e : PySem.W.minD (dK x) ((y :: xs).map dK) = PySem.W.minD (if PySem.W.dataLt (dK y) (dK x) then dK y else dK x) (xs.map dK) := rfl
    rw [e, dataLt_dK]
    have e2 : (if ltK y x = true then dK y else dK x) = dK (if ltK y x = true then y else x) := by split <;> rfl
    rw [e2, minD_dK xs]
    rfl
theorem minLD_dK (x : Ky) (xs : List Ky) : minLD (.list ((x :: xs).map dK)) = .ok (dK (minK x xs)) := by
  have ok : minOk ((x :: xs).map dK) = true := by
    unfold minOk
    have h1 : PyData.plainAll ((x :: xs).map dK) = true := plainAll_map fun y hy => (dK_ok _ y hy).1
    have h2 : PyData.depthAll ((x :: xs).map dK) ≤ 2 := depthAll_map fun y hy => (dK_ok _ y hy).2
    have h3 : ((x :: xs).map dK).any isNon = false := by
      rw [List.any_eq_false]
      intro d hd
      obtain ⟨y, _, rfl⟩ := List.mem_map.mp hd
      simp [dK, isNon]
    have h4 : decide (PyData.depthAll ((x :: xs).map dK) ≤ 64) = true := decide_eq_true (by omega)
    rw [h1, alikeB_map alike_dK, h3, h4]
    rfl
  show (if minOk (dK x :: xs.map dK) = true then Res.ok (PySem.W.minD (dK x) (xs.map dK)) else .bad) = _
  rw [List.map_cons] at ok
  rw [if_pos ok, minD_dK]
@[simp] theorem sumD_l (ns : List Int) : sumD (.list (ns.map .int)) = .ok (.int ns.sum) := by
  show (Res.ofOpt (allInts (ns.map .int))).bind _ = _
  rw [allInts_map]
  rfl
@[simp] theorem sumD_t (ns : List Int) : sumD (.tuple (ns.map .int)) = .ok (.int ns.sum) := by
  show (Res.ofOpt (allInts (ns.map .int))).bind _ = _
  rw [allInts_map]
  rfl
@[simp] theorem sumD_dE (e : Ed) : sumD (dE e) = .ok (.int (e.1 + e.2)) := by
  rw [dE_is, sumD_t]
  simp
@[simp] theorem isND_n (d : PyData) : isND d .none = .ok (.bool (isNon d)) := id rfl
@[simp] theorem isNon_n : isNon .none = true := rfl
@[simp] theorem isNon_dK (k : Ky) : isNon (dK k) = false := rfl
end DL

namespace DL
open PySem L2

/-! ### lists of edges -/
theorem okD_dEl (es : List Ed) : okD (.list (es.map dE)) = true := okD_seqL (dE_ok es) (by decide)
theorem eqv_dEl (x y : List Ed) : PyData.eqv (.list (x.map dE)) (.list (y.map dE)) = decide (x = y) := by rw [PyData.eqv]; exact eqvAll_map eqv_dE x y
theorem eqD_dEl (x y : List Ed) : eqD (.list (x.map dE)) (.list (y.map dE)) = .ok (.bool (decide (x = y))) := by unfold eqD; rw [if_pos ⟨okD_dEl x, okD_dEl y⟩, eqv_dEl]
theorem neD_dEl (x y : List Ed) : neD (.list (x.map dE)) (.list (y.map dE)) = .ok (.bool !(decide (x = y))) := by unfold neD; rw [if_pos ⟨okD_dEl x, okD_dEl y⟩, eqv_dEl]
theorem eqD_dEl0 (x : List Ed) : eqD (.list (x.map dE)) (.list []) = .ok (.bool (decide (x = []))) := eqD_dEl x []
theorem neD_dEl0 (x : List Ed) : neD (.list (x.map dE)) (.list []) = .ok (.bool !(decide (x = []))) := neD_dEl x []
theorem neD_lst0 (x : List Int) : neD (.list (x.map .int)) (.list []) = .ok (.bool !(decide (x = []))) := neD_lst x []
theorem eqD_lst0 (x : List Int) : eqD (.list (x.map .int)) (.list []) = .ok (.bool (decide (x = []))) := eqD_lst x []
@[simp] theorem eqD_bb (a b : Bool) : eqD (.bool a) (.bool b) = .ok (.bool (a == b)) := by cases a <;> cases b <;> rfl
theorem setP_dE {es : List Ed} (hl : es.length < 64) (hb : ∀ e ∈ es, (0 ≤ e.1 ∧ e.1 < 64) ∧ (0 ≤ e.2 ∧ e.2 < 64)) : setP (.list (es.map dE)) = some es := by
  have h : prsOf (es.map dE) = some es := prsOf_map es
  show ((prsOf (es.map dE)).bind fun es => if es.length < 64 ∧ smallP es = true then some es else none) = some es
  rw [h]
  show (if es.length < 64 ∧ smallP es = true then some es else none) = some es
  rw [if_pos ⟨hl, List.all_eq_true.mpr fun e he => by simpa using hb e he⟩]
theorem ev_ssp {f : Env → Res PyData} {ρ : Env} {es : List Ed} (h : f ρ = .ok (.list (es.map dE))) (hl : es.length < 64) (hb : ∀ e ∈ es, (0 ≤ e.1 ∧ e.1 < 64) ∧ (0 ≤ e.2 ∧ e.2 < 64)) : eSortedSetP f ρ = .ok (.list ((usortP es).map dE)) := by
  unfold eSortedSetP
  rw [h, bind_ok, setP_dE hl hb]
  rfl
theorem usortP_nodup (es : List Ed) : (usortP es).Nodup := (usortP_lt es).imp fun {a b} h e => by
  subst e
  simp [ltP] at h
/-- more than one, if two of them are unlike -/
theorem usortP_more {es : List Ed} : 1 < (usortP es).length ↔ ∃ x ∈ es, ∃ y ∈ es, x ≠ y := by
  have nd := usortP_nodup es
  constructor
  · intro h
    match q : usortP es, h with
    | x :: y :: l, _ =>
      rw [q, List.nodup_cons] at nd
      exact ⟨x, mem_usortP.mp (by rw [q]; simp), y, mem_usortP.mp (by rw [q]; simp), fun z => nd.1 (by rw [z]; simp)⟩
  · rintro ⟨x, hx, y, hy, ne⟩
    have hx := mem_usortP.mpr hx
    have hy := mem_usortP.mpr hy
    match q : usortP es with
    | [] => rw [q] at hx; cases hx
    | [z] =>
      rw [q, List.mem_singleton] at hx hy
      exact absurd (hx.trans hy.symm) ne
    | _ :: _ :: l => simp
@[simp] theorem neD_nil : neD (.list []) (.list []) = .ok (.bool false) := id rfl
@[simp] theorem eqD_nil : eqD (.list []) (.list []) = .ok (.bool true) := id rfl
@[simp] theorem neD_nilT : neD (.tuple []) (.tuple []) = .ok (.bool false) := id rfl
@[simp] theorem eqD_nilT : eqD (.tuple []) (.tuple []) = .ok (.bool true) := id rfl
theorem ne_edge (n : Int) (es : List Ed) : eqD (dG n es) (.str "edge") = .ok (.bool false) := by
  have ok : okD (dG n es) = true := by
    have h := okD_dEs es
    unfold okD at h ⊢
    simp only [Bool.and_eq_true, decide_eq_true_eq] at h ⊢
    unfold dG
    rw [PyData.plain, PyData.plainAll, PyData.plainAll, PyData.plainAll, PyData.depth, PyData.depthAll, PyData.depthAll, PyData.depthAll, h.1]
    refine ⟨rfl, ?_⟩
    have e : (dEs es).depth ≤ 2 := by
      have := depthAll_map (xs := es) (enc := dE) (n := 1) fun x hx => (dE_ok es x hx).2
      show PyData.depthAll (es.map dE) + 1 ≤ 2
      omega
    have z : (PyData.int n).depth = 0 := rfl
    omega
  unfold eqD
  rw [if_pos ⟨ok, rfl⟩]
  simp [dG, PyData.eqv]
theorem okD_dG (n : Int) (es : List Ed) : okD (dG n es) = true := by
  have h := ne_edge n es
  unfold eqD at h
  split at h
  · rename_i q; exact q.1
  · cases h
theorem ne_dG (n : Int) (es : List Ed) : neD (dG n es) (dG n es) = .ok (.bool false) := by
  unfold neD
  rw [if_pos ⟨okD_dG n es, okD_dG n es⟩, PySem.SeqAt.eqv_refl_plain _ (okD_plain (okD_dG n es))]
  rfl
theorem asg_n (i j : Nat) (x y : PyData) (f : Env → Res PyData) (ρ : Env) (h : f ρ = .ok (.tuple [x, y])) : sAsg (gN2 i j) f ρ = .nx ((ρ.set i (.val x)).set j (.val y)) := by
  unfold sAsg
  rw [h]
  rfl
@[simp] theorem ev_tupleRng (f : Env → Res PyData) (ρ : Env) : eTupleRng f ρ = (f ρ).bind fun d => (rgD d).bind fun ds => .ok (.tuple ds) := id rfl
@[simp] theorem ev_listRng (f : Env → Res PyData) (ρ : Env) : eListRng f ρ = (f ρ).bind fun d => (rgD d).bind fun ds => .ok (.list ds) := id rfl
@[simp] theorem ev_fLRng (f : Env → Res PyData) (ρ : Env) : eFLRng f ρ = (f ρ).bind rgD := id rfl
theorem rgD_is {n : Int} (h0 : 0 ≤ n) (h1 : n ≤ 1000000) : rgD (.int n) = .ok ((irange 0 n).map .int) := rng_is (by omega) (by omega) (by omega) h1
end DL

namespace DL
open PySem L2

/-! ### count, index, remove upon edges -/
@[simp] theorem ev_cntT (f1 f2 : Env → Res PyData) (ρ : Env) : eCntT f1 f2 ρ = (f1 ρ).bind fun x => (asT x).bind fun ds => (f2 ρ).bind fun d => cntD ds d := id rfl
@[simp] theorem ev_cntL (f1 f2 : Env → Res PyData) (ρ : Env) : eCntL f1 f2 ρ = (f1 ρ).bind fun x => (asL x).bind fun ds => (f2 ρ).bind fun d => cntD ds d := id rfl
@[simp] theorem ev_idxT (f1 f2 : Env → Res PyData) (ρ : Env) : eIdxT f1 f2 ρ = (f1 ρ).bind fun x => (asT x).bind fun ds => (f2 ρ).bind fun d => idxD ds d := id rfl
@[simp] theorem asT_t (ds : List PyData) : asT (.tuple ds) = .ok ds := id rfl
@[simp] theorem asL_l (ds : List PyData) : asL (.list ds) = .ok ds := id rfl
theorem plain_dEs (es : List Ed) : PyData.plainAll (es.map dE) = true := plainAll_map fun x _ => okD_plain (okD_dE x)
theorem countP_dE (e : Ed) : ∀ es : List Ed, (es.map dE).countP (fun z => PyData.eqv z (dE e)) = es.count e
  | [] => rfl
  | x :: es => by
    rw [List.map_cons, List.countP_cons, List.count_cons, countP_dE e es, eqv_dE]
    by_cases h : x = e <;> simp [h]
theorem cntD_dE (es : List Ed) (e : Ed) : cntD (es.map dE) (dE e) = .ok (.int (es.count e : Nat)) := by
  unfold cntD
  rw [if_pos ⟨plain_dEs es, okD_dE e⟩, countP_dE]
theorem place_dE (e : Ed) : ∀ {es : List Ed}, e ∈ es → PySem.SeqAt.dataPlace (es.map dE) (dE e) = some (es.idxOf e)
  | [], h => nomatch h
  | x :: es, h => by
    unfold PySem.SeqAt.dataPlace
    rw [List.map_cons, List.findIdx?_cons, eqv_dE]
    by_cases c : x = e
    · subst c
      simp
    · have h' : e ∈ es := (List.mem_cons.mp h).resolve_left fun z => c z.symm
      have ih := place_dE e h'
      unfold PySem.SeqAt.dataPlace at ih
      rw [ih, List.idxOf_cons]
      have b : (x == e) = false := by simpa using c
      simp [c, b]
theorem idxD_dE {es : List Ed} {e : Ed} (h : e ∈ es) : idxD (es.map dE) (dE e) = .ok (.int (es.idxOf e : Nat)) := by
  unfold idxD
  rw [if_pos ⟨plain_dEs es, okD_dE e⟩, place_dE e h]
theorem eraseIdx_map' {α β : Type} (f : α → β) : ∀ (l : List α) (j : Nat), (l.map f).eraseIdx j = (l.eraseIdx j).map f
  | [], _ => by simp
  | _ :: _, 0 => by simp
  | a :: l, j + 1 => by
    have ih := eraseIdx_map' f l j
    simp [ih]
theorem remD_dE {es : List Ed} {e : Ed} (h : e ∈ es) : remD (es.map dE) (dE e) = some ((es.erase e).map dE) := by
  unfold remD
  rw [if_pos ⟨plain_dEs es, okD_dE e⟩, place_dE e h]
  show some ((es.map dE).eraseIdx (es.idxOf e)) = _
  rw [List.erase_eq_eraseIdx_of_idxOf rfl, eraseIdx_map']
def remR (i : Nat) (r : Res PyData) (ρ : Env) : Option Sl → RS
  | some (.own ds) => ofR r fun d => match remD ds d with
    | some es => .nx (ρ.set i (.own es))
    | none => .bad
  | _ => .bad
@[simp] theorem ev_sRem (i : Nat) (f : Env → Res PyData) (ρ : Env) : sRem i f ρ = remR i (f ρ) ρ ρ[i]? := by
  unfold sRem remR
  cases ρ[i]? with
  | none => rfl
  | some s => cases s <;> rfl
theorem remR_own {i : Nat} {es : List Ed} {e : Ed} {ρ : Env} (h : e ∈ es) : remR i (.ok (dE e)) ρ (some (.own (es.map dE))) = .nx (ρ.set i (.own ((es.erase e).map dE))) := by
  show (match remD (es.map dE) (dE e) with
    | some es => RS.nx (ρ.set i (.own es))
    | none => .bad) = _
  rw [remD_dE h]
@[simp] theorem ev_eFL (f : Env → Res (List PyData)) (ρ : Env) : eFL f ρ = (f ρ).bind fun ds => match ds with
  | [.list xs] => .ok xs
  | [.tuple xs] => .ok xs
  | _ => .bad := id rfl
@[simp] theorem ev_rev (f : Env → Res PyData) (ρ : Env) : eRev f ρ = (f ρ).bind revD := id rfl
@[simp] theorem revD_t (xs : List PyData) : revD (.tuple xs) = .ok (.tuple xs.reverse) := id rfl
@[simp] theorem ev_own2 (i j : Nat) (f1 f2 : Env → Res (List PyData)) (ρ : Env) : sOwn2 i j f1 f2 ρ = ofR (f1 ρ) fun ds => ofR (f2 ρ) fun es => .nx ((ρ.set i (.own ds)).set j (.own es)) := id rfl
/-- min and max of two -/
def mkE (a b : Int) : Ed := (if b < a then b else a, if b > a then b else a)
theorem mkE_d (a b : Int) : PyData.tuple [.int (if b < a then b else a), .int (if b > a then b else a)] = dE (mkE a b) := rfl
end DL

namespace DL
open PySem L2

/-! ### evaluation: objects, exceptions -/
@[simp] theorem ev_isx (i : Nat) (a dd : Addr) (x c : Str) (ρ : Env) : eIsx i a dd x c ρ = if isEx ρ[i]? a dd x = true then .ok (.bool (isaE x c)) else .bad := id rfl
@[simp] theorem isEx_refl (a dd : Addr) (x : Str) : isEx (some (.val (exD a dd x))) a dd x = true := isEx_self a dd x
@[simp] theorem ev_line (i : Nat) (a dd : Addr) (x : Str) (ρ : Env) : eLine i a dd x ρ = if isEx ρ[i]? a dd x = true then (match lineOf x with
  | some l => .ok (lineD l)
  | none => .bad) else .bad := id rfl
@[simp] theorem cutR_nx (i : Nat) (ρ : Env) : cutR i (.nx ρ) = .nx (ρ.set i .no) := id rfl
@[simp] theorem cutR_ret (i : Nat) (d : PyData) : cutR i (.ret d) = .ret d := id rfl
theorem cutR_ofR {α : Type} {i : Nat} {r : Res α} {k k' : α → RS} (h : ∀ d, cutR i (k d) = cutR i (k' d)) : cutR i (ofR r k) = cutR i (ofR r k') := by
  cases r with
  | ok a => exact h a
  | err x => rfl
  | bad => rfl
@[simp] theorem retR_ret (d : PyData) : retR (.ret d) = .ret d := id rfl
@[simp] theorem ev_M1 (g : PyData → PyData → Res PyData) (f1 f2 : Env → Res PyData) (ρ : Env) : eM1 g f1 f2 ρ = (f1 ρ).bind fun x => (match x with
  | .str a => (f2 ρ).bind fun y => g (.str a) y
  | _ => .bad) := id rfl
@[simp] theorem ev_fmt (f : Env → Res PyData) (ρ : Env) : eFmt f ρ = (f ρ).bind fmtD := id rfl
@[simp] theorem ev_fld (f : Str) (g : Env → Res PyData) (ρ : Env) : eFld f g ρ = (g ρ).bind (fldD f) := id rfl
@[simp] theorem ev_make (I : List PyData → Res Fd) (fa : Env → Res (List PyData)) (ρ : Env) : eMake I fa ρ = (fa ρ).bind fun ds => (I ds).bind fun fd => .ok (obD "Planner" fd) := id rfl
@[simp] theorem ev_makeN (I : List PyData → Res Fd) (fa : Env → Res (List PyData)) (ρ : Env) : eMakeN I fa ρ = (fa ρ).bind fun ds => (noErr (I ds)).bind fun fd => .ok (obD "Planner" fd) := id rfl
end DL

namespace DL
open PySem L2
@[simp] theorem ev_isP (f : Env → Res PyData) (ρ : Env) : eIsP f ρ = (f ρ).bind isPD := id rfl
end DL

namespace Pg
open PySem L2 DL
def tp (i : Nat) : Stmt := PySem.Challenge.pw_markedpaths_k15_failed_calls.main.body.getD i (.Pass ⟨0, 0, 0, 0⟩)
section
variable {P : Program} {w : World} {K : PySem.W.Frag} {mg : Str → Option Value} {base : Heap}
abbrev s__law_cell : Stmt := tp 29
abbrev N__law_cell : List Str := ["script", "k"]
theorem sc__law_cell : FnScope N__law_cell ["script", "k"] (defScope s__law_cell) := ⟨rfl, rfl, rfl, by decide +kernel, rfl, by decide +kernel, by decide +kernel⟩
def S__law_cell : DL.Env → RS := (sSeq (sIf (tst (e2 ltD (eVarS 1) (eCall (call1 lenD) (eCons (eVarS 0) eNil))))
(sRet (e2 ixD (eVarS 0) (eVarS 1)))
sNil)
(sRet (eC (.int 0))))
def F__law_cell : List PyData → Res PyData := runF 2 2 S__law_cell
theorem u__law_cell (a0 a1 : PyData) : F__law_cell [a0, a1] = runR (S__law_cell [.val a0, .val a1]) := (ev_run rfl).trans rfl
theorem ok__law_cell {f : Addr} {fd : FuncData} (F : Fun K "_law_cell" "_law_cell" s__law_cell f fd) (T : Blt mg) : FnOk P w K mg base (L2.CX P w) 1 f fd ["script", "k"] (spD K mg F__law_cell) :=
  def_ok F sc__law_cell fun cdv A outer s H E hr => by
    have tk : Takes (cxOf (L2.CX P w) P w K mg base N__law_cell "_law_cell" (defScope s__law_cell) f cdv A outer s H E) (fun cls d _ H => E cls d H) := takes_of rfl rfl rfl rfl
    have po := passes_of (X := cxOf (L2.CX P w) P w K mg base N__law_cell "_law_cell" (defScope s__law_cell) f cdv A outer s H E) rfl
    have hx : Passes (L2.CX P w) (cxOf (L2.CX P w) P w K mg base N__law_cell "_law_cell" (defScope s__law_cell) f cdv A outer s H E) E := passes_call tk (fun _ _ _ _ h => h)
    exact (ss_cons (s_if (t_cmp (oLt hr) (sv 1) (sh_of (dLen T (by rfl) (as_cons (sv 0) as_nil))) (nomark _))
      (ss_one (s_ret (d_ix (sv 0) (sv 1))))
      ss_nil)
      (ss_one (s_ret d_int)))
abbrev s__law_row : Stmt := tp 30
abbrev N__law_row : List Str := ["script", "at", "cell", "found", "time"]
theorem sc__law_row : FnScope N__law_row ["script", "at"] (defScope s__law_row) := ⟨rfl, rfl, rfl, by decide +kernel, rfl, by decide +kernel, by decide +kernel⟩
def L__law_row_1 : DL.Env → RS := (sIf (tst (e2 ltD (eCallN F__law_cell (eCons (eVar 0) (eCons (eVar 1) eNil))) (e2 powD (eC (.int 10)) (eC (.int 18)))))
(sSeq (sSet 2 (e2 modD (e2 addD (e2 addD (e2 addD (e2 mulD (eVarS 2) (eC (.int 48271))) (e2 mulD (eC (.int 131)) (eVarS 4))) (eC (.int 7))) (eCallN F__law_cell (eCons (eVar 0) (eCons (e2 modD (e2 addD (e2 addD (eVarS 1) (eC (.int 1))) (eVarS 4)) (eC (.int 20))) eNil)))) (eC (.int 2147483647))))
(sApp 3 (e2 modD (e2 fdivD (eVarS 2) (eC (.int 11))) (eC (.int 1000)))))
(sSeq (sApp 3 (e2 modD (eVarS 2) (eC (.int 1000))))
(sSet 2 (e2 fdivD (eVarS 2) (eC (.int 1000))))))
def S__law_row : DL.Env → RS := (sSeq (sSet 2 (eCallN F__law_cell (eCons (eVar 0) (eCons (eVar 1) eNil))))
(sSeq (sSetF 3 eNil)
(sSeq (sFor (iRng1D (eCons (eC (.int 60)) eNil)) (gN 4)
L__law_row_1)
(sRetO 3))))
def F__law_row : List PyData → Res PyData := runF 2 5 S__law_row
theorem u__law_row (a0 a1 : PyData) : F__law_row [a0, a1] = runR (S__law_row [.val a0, .val a1, .no, .no, .no]) := (ev_run rfl).trans rfl
theorem ok__law_row {f : Addr} {fd : FuncData} (F : Fun K "_law_row" "_law_row" s__law_row f fd) (T : Blt mg) (G__law_cell : Cal P w K mg base 1 "_law_cell" ["script", "k"] F__law_cell) : FnOk P w K mg base (L2.CX P w) 2 f fd ["script", "at"] (spD K mg F__law_row) :=
  def_ok F sc__law_row fun cdv A outer s H E hr => by
    have tk : Takes (cxOf (L2.CX P w) P w K mg base N__law_row "_law_row" (defScope s__law_row) f cdv A outer s H E) (fun cls d _ H => E cls d H) := takes_of rfl rfl rfl rfl
    have po := passes_of (X := cxOf (L2.CX P w) P w K mg base N__law_row "_law_row" (defScope s__law_row) f cdv A outer s H E) rfl
    have hx : Passes (L2.CX P w) (cxOf (L2.CX P w) P w K mg base N__law_row "_law_row" (defScope s__law_row) f cdv A outer s H E) E := passes_call tk (fun _ _ _ _ h => h)
    exact (ss_cons (s_set (i := 2) sc__law_row.nd rfl (.inl rfl) (d_cal G__law_cell hr (by rfl) (a_cons (dv 0) (a_cons (dv 1) a_nil))))
      (ss_cons (s_setF (i := 3) sc__law_row.nd rfl (.inl rfl) f_nil)
      (ss_cons (s_for po rfl (i_rng1 (by rfl) T.range (a_cons d_int a_nil)) (g_name (i := 4) sc__law_row.nd rfl (.inl rfl))
      (ss_one (s_if (t_cmp (oLt hr) (sh_of (d_cal G__law_cell hr (by rfl) (a_cons (dv 0) (a_cons (dv 1) a_nil)))) (sh_of (d_op op_powD (sh_of d_int) (sh_of d_int))) (nomark _))
      (ss_cons (s_set (i := 2) sc__law_row.nd rfl (.inl rfl) (d_op op_modD (sh_of (d_op op_addD (sh_of (d_op op_addD (sh_of (d_op op_addD (sh_of (d_op op_mulD (sv 2) (sh_of d_int))) (sh_of (d_op op_mulD (sh_of d_int) (sv 4))))) (sh_of d_int))) (sh_of (d_cal G__law_cell hr (by rfl) (a_cons (dv 0) (a_cons (d_op op_modD (sh_of (d_op op_addD (sh_of (d_op op_addD (sv 1) (sh_of d_int))) (sv 4))) (sh_of d_int)) a_nil)))))) (sh_of d_int)))
      (ss_one (s_app (i := 3) rfl (.inl rfl) (d_op op_modD (sh_of (d_op op_fdivD (sv 2) (sh_of d_int))) (sh_of d_int)))))
      (ss_cons (s_app (i := 3) rfl (.inl rfl) (d_op op_modD (sv 2) (sh_of d_int)))
      (ss_one (s_set (i := 2) sc__law_row.nd rfl (.inl rfl) (d_op op_fdivD (sv 2) (sh_of d_int))))))))
      (ss_one (s_retO (i := 3) rfl (.inl rfl))))))
abbrev s__law_graph : Stmt := tp 31
abbrev N__law_graph : List Str := ["script", "at", "most", "draws", "vertices", "edges", "time", "row", "step"]
theorem sc__law_graph : FnScope N__law_graph ["script", "at", "most"] (defScope s__law_graph) := ⟨rfl, rfl, rfl, by decide +kernel, rfl, by decide +kernel, by decide +kernel⟩
def L__law_graph_1 : DL.Env → RS := (sIf (tst (e2 neD (e2 ixD (eVarS 7) (eVarS 8)) (e2 ixD (eVarS 7) (e2 subD (eVarS 8) (eC (.int 1))))))
(sApp 5 (eTup (eCons (eCall (call2 min2D) (eCons (e2 ixD (eVarS 7) (eVarS 8)) (eCons (e2 ixD (eVarS 7) (e2 subD (eVarS 8) (eC (.int 1)))) eNil))) (eCons (eCall (call2 max2D) (eCons (e2 ixD (eVarS 7) (eVarS 8)) (eCons (e2 ixD (eVarS 7) (e2 subD (eVarS 8) (eC (.int 1)))) eNil))) eNil))))
sNil)
def L__law_graph_2 : DL.Env → RS := (sSeq (sForget 8 (sSetL 7 (eLcA 8 (iRng1D (eCons (e2 addD (eC (.int 3)) (e2 modD (e2 ixD (eVarS 3) (e2 addD (eC (.int 30)) (eVarS 6))) (eC (.int 2)))) eNil)) bYes (e2 modD (e2 ixD (eVarS 3) (e2 addD (e2 addD (eC (.int 2)) (e2 mulD (eC (.int 5)) (eVarS 6))) (eVarS 8))) (eVarS 4)))))
(sSeq (sIf (tst (e2 eqD (e2 modD (e2 ixD (eVarS 3) (eC (.int 40))) (eC (.int 3))) (eC (.int 0))))
(sSet 7 (eSl (eVarS 7) oNone (oSome (eC (.int 1)))))
sNil)
(sSeq (sSet 7 (e2 addD (eVarS 7) (eIf (tst (e2 eqD (eCall (call1 lenD) (eCons (eVarS 7) eNil)) (eC (.int 1)))) (eLst (eCons (e2 modD (e2 ixD (eVarS 3) (eC (.int 50))) (eVarS 4)) eNil)) (eSl (eVarS 7) oNone (oSome (eC (.int 1)))))))
(sFor (iRng2D (eCons (eC (.int 1)) (eCons (eCall (call1 lenD) (eCons (eVarS 7) eNil)) eNil))) (gN 8)
L__law_graph_1))))
def S__law_graph : DL.Env → RS := (sSeq (sSet 3 (eCallN F__law_row (eCons (eVar 0) (eCons (eVar 1) eNil))))
(sSeq (sSet 4 (e2 addD (eC (.int 2)) (e2 modD (e2 ixD (eVarS 3) (eC (.int 0))) (eC (.int 5)))))
(sSeq (sSetF 5 eNil)
(sSeq (sFor (iRng1D (eCons (e2 modD (e2 ixD (eVarS 3) (eC (.int 1))) (eC (.int 5))) eNil)) (gN 6)
L__law_graph_2)
(sRet (eTup (eCons (eVar 4) (eCons (eCall (call1 tupD) (eCons (eCall (call1 sortedD) (eCons (eSl (eVarS 5) oNone (oSome (eVar 2))) eNil)) eNil)) eNil))))))))
def F__law_graph : List PyData → Res PyData := runF 3 9 S__law_graph
theorem u__law_graph (a0 a1 a2 : PyData) : F__law_graph [a0, a1, a2] = runR (S__law_graph [.val a0, .val a1, .val a2, .no, .no, .no, .no, .no, .no]) := (ev_run rfl).trans rfl
theorem ok__law_graph {f : Addr} {fd : FuncData} (F : Fun K "_law_graph" "_law_graph" s__law_graph f fd) (T : Blt mg) (G__law_row : Cal P w K mg base 2 "_law_row" ["script", "at"] F__law_row) : FnOk P w K mg base (L2.CX P w) 3 f fd ["script", "at", "most"] (spD K mg F__law_graph) :=
  def_ok F sc__law_graph fun cdv A outer s H E hr => by
    have tk : Takes (cxOf (L2.CX P w) P w K mg base N__law_graph "_law_graph" (defScope s__law_graph) f cdv A outer s H E) (fun cls d _ H => E cls d H) := takes_of rfl rfl rfl rfl
    have po := passes_of (X := cxOf (L2.CX P w) P w K mg base N__law_graph "_law_graph" (defScope s__law_graph) f cdv A outer s H E) rfl
    have hx : Passes (L2.CX P w) (cxOf (L2.CX P w) P w K mg base N__law_graph "_law_graph" (defScope s__law_graph) f cdv A outer s H E) E := passes_call tk (fun _ _ _ _ h => h)
    exact (ss_cons (s_set (i := 3) sc__law_graph.nd rfl (.inr rfl) (d_cal G__law_row hr (by rfl) (a_cons (dv 0) (a_cons (dv 1) a_nil))))
      (ss_cons (s_set (i := 4) sc__law_graph.nd rfl (.inr rfl) (d_op op_addD (sh_of d_int) (sh_of (d_op op_modD (sh_of (d_ix (sv 3) (sh_of d_int))) (sh_of d_int)))))
      (ss_cons (s_setF (i := 5) sc__law_graph.nd rfl (.inl rfl) f_nil)
      (ss_cons (s_for po rfl (i_rng1 (by rfl) T.range (a_cons (d_op op_modD (sh_of (d_ix (sv 3) (sh_of d_int))) (sh_of d_int)) a_nil)) (g_name (i := 6) sc__law_graph.nd rfl (.inr rfl))
      (ss_cons (s_forget 8 (s_lc (m := 7) rfl sc__law_graph.nd rfl rfl (sw_true rfl rfl rfl (by decide +kernel)) (i_rng1 (by rfl) T.range (a_cons (d_op op_addD (sh_of d_int) (sh_of (d_op op_modD (sh_of (d_ix (sv 3) (sh_of (d_op op_addD (sh_of d_int) (sv 6))))) (sh_of d_int)))) a_nil)) (blkOk_by (N := N__law_graph) (sc := defScope s__law_graph) (own := [("step", 8)]) (by decide +kernel)) (fun _ _ _ _ _ => pg_name (i := 8) sc__law_graph.nd rfl (.inl rfl)) (fun _ _ _ _ _ => ts_nil) (fun _ _ _ _ _ => (d_op op_modD (sh_of (d_ix (sv 3) (sh_of (d_op op_addD (sh_of (d_op op_addD (sh_of d_int) (sh_of (d_op op_mulD (sh_of d_int) (sv 6))))) (sv 8))))) (sv 4)))))
      (ss_cons (s_if (t_cmp (oEq hr) (sh_of (d_op op_modD (sh_of (d_ix (sv 3) (sh_of d_int))) (sh_of d_int))) (sh_of d_int) (nomark _))
      (ss_one (s_set (i := 7) sc__law_graph.nd rfl (.inl rfl) (d_sl (sv 7) o_none (o_some d_int))))
      ss_nil)
      (ss_cons (s_set (i := 7) sc__law_graph.nd rfl (.inl rfl) (d_op op_addD (sv 7) (sh_of (d_if (t_cmp (oEq hr) (sh_of (dLen T (by rfl) (as_cons (sv 7) as_nil))) (sh_of d_int) (nomark _)) (d_lst (a_cons (d_op op_modD (sh_of (d_ix (sv 3) (sh_of d_int))) (sv 4)) a_nil)) (d_sl (sv 7) o_none (o_some d_int))))))
      (ss_one (s_for po rfl (i_rng2 (by rfl) T.range (a_cons d_int (a_cons (dLen T (by rfl) (as_cons (sv 7) as_nil)) a_nil))) (g_name (i := 8) sc__law_graph.nd rfl (.inl rfl))
      (ss_one (s_if (t_cmp (oNe hr) (sh_of (d_ix (sv 7) (sv 8))) (sh_of (d_ix (sv 7) (sh_of (d_op op_subD (sv 8) (sh_of d_int))))) (nomark _))
      (ss_one (s_app (i := 5) rfl (.inl rfl) (d_tup (a_cons (dMin2 T rfl (by rfl) (as_cons (sh_of (d_ix (sv 7) (sv 8))) (as_cons (sh_of (d_ix (sv 7) (sh_of (d_op op_subD (sv 8) (sh_of d_int))))) as_nil))) (a_cons (dMax2 T rfl (by rfl) (as_cons (sh_of (d_ix (sv 7) (sv 8))) (as_cons (sh_of (d_ix (sv 7) (sh_of (d_op op_subD (sv 8) (sh_of d_int))))) as_nil))) a_nil)))))
      ss_nil))))))))
      (ss_one (s_ret (d_tup (a_cons (dv 4) (a_cons (dTuple T (by rfl) (as_cons (sh_of (dSorted T hr (by rfl) (as_cons (sh_of (d_sl (sv 5) o_none (o_some (dv 2)))) as_nil))) as_nil)) a_nil)))))))))
abbrev s__law_degree : Stmt := tp 33
abbrev N__law_degree : List Str := ["graph", "vertex", "edge"]
theorem sc__law_degree : FnScope N__law_degree ["graph", "vertex"] (defScope s__law_degree) := ⟨rfl, rfl, rfl, by decide +kernel, rfl, by decide +kernel, by decide +kernel⟩
def S__law_degree : DL.Env → RS := (sRet (eCall (call1 lenD) (eCons (eList (eLcA 2 (iSeq (e2 ixD (eVarS 0) (eC (.int 1)))) (tst (e2 inD (eVarS 1) (eVarS 2))) (eVar 2))) eNil)))
def F__law_degree : List PyData → Res PyData := runF 2 3 S__law_degree
theorem u__law_degree (a0 a1 : PyData) : F__law_degree [a0, a1] = runR (S__law_degree [.val a0, .val a1, .no]) := (ev_run rfl).trans rfl
theorem ok__law_degree {f : Addr} {fd : FuncData} (F : Fun K "_law_degree" "_law_degree" s__law_degree f fd) (T : Blt mg) : FnOk P w K mg base (L2.CX P w) 1 f fd ["graph", "vertex"] (spD K mg F__law_degree) :=
  def_ok F sc__law_degree fun cdv A outer s H E hr => by
    have tk : Takes (cxOf (L2.CX P w) P w K mg base N__law_degree "_law_degree" (defScope s__law_degree) f cdv A outer s H E) (fun cls d _ H => E cls d H) := takes_of rfl rfl rfl rfl
    have po := passes_of (X := cxOf (L2.CX P w) P w K mg base N__law_degree "_law_degree" (defScope s__law_degree) f cdv A outer s H E) rfl
    have hx : Passes (L2.CX P w) (cxOf (L2.CX P w) P w K mg base N__law_degree "_law_degree" (defScope s__law_degree) f cdv A outer s H E) E := passes_call tk (fun _ _ _ _ h => h)
    exact (ss_one (s_ret (dLen T (by rfl) (as_cons (sh_of (d_fresh (f_lc rfl sc__law_degree.nd (i_seqS (sh_of (d_ix (sv 0) (sh_of d_int)))) (blkOk_by (N := N__law_degree) (sc := defScope s__law_degree) (own := [("edge", 2)]) (by decide +kernel)) (fun _ _ _ _ _ => pg_name (i := 2) sc__law_degree.nd rfl (.inl rfl)) (fun _ _ _ _ _ => (ts_one (t_cmp (oIn hr) (sv 1) (sv 2) (by rfl)))) (fun _ _ _ _ _ => (dv 2))))) as_nil))))
abbrev s__law_marks : Stmt := tp 32
abbrev N__law_marks : List Str := ["script", "at", "graph", "draws", "found", "vertex"]
theorem sc__law_marks : FnScope N__law_marks ["script", "at", "graph"] (defScope s__law_marks) := ⟨rfl, rfl, rfl, by decide +kernel, rfl, by decide +kernel, by decide +kernel⟩
def L__law_marks_1 : DL.Env → RS := (sIf (bAnd (tst (e2 ltD (eCall (call1 lenD) (eCons (eVarS 4) eNil)) (eC (.int 2)))) (tst (e2 niD (eVarS 5) (eVarS 4))))
(sSet 4 (eCall (call1 sortedD) (eCons (e2 addD (eVarS 4) (eLst (eCons (eVar 5) eNil))) eNil)))
sNil)
def S__law_marks : DL.Env → RS := (sSeq (sSet 3 (eCallN F__law_row (eCons (eVar 0) (eCons (eVar 1) eNil))))
(sSeq (sForget 5 (sSetL 4 (eLcA 5 (iRng1D (eCons (e2 ixD (eVarS 2) (eC (.int 0))) eNil)) (tst (e2 eqD (e2 modD (e2 ixD (eVarS 3) (eVarS 5)) (eC (.int 3))) (eC (.int 0)))) (eVar 5))))
(sSeq (sIf (tst (e2 gtD (e2 modD (e2 ixD (eVarS 3) (eC (.int 10))) (eC (.int 4))) (eC (.int 0))))
(sForget 5 (sSet 4 (e2 addD (eVarS 4) (eList (eLcA 5 (iRng1D (eCons (e2 ixD (eVarS 2) (eC (.int 0))) eNil)) (tst (e2 eqD (e2 modD (eCallN F__law_degree (eCons (eVar 2) (eCons (eVar 5) eNil))) (eC (.int 2))) (eC (.int 1)))) (eVar 5))))))
sNil)
(sSeq (sSet 4 (eSortedSet (eVarS 4)))
(sSeq (sFor (iRng1D (eCons (e2 ixD (eVarS 2) (eC (.int 0))) eNil)) (gN 5)
L__law_marks_1)
(sRet (eCall (call1 tupD) (eCons (eVarS 4) eNil))))))))
def F__law_marks : List PyData → Res PyData := runF 3 6 S__law_marks
theorem u__law_marks (a0 a1 a2 : PyData) : F__law_marks [a0, a1, a2] = runR (S__law_marks [.val a0, .val a1, .val a2, .no, .no, .no]) := (ev_run rfl).trans rfl
theorem ok__law_marks {f : Addr} {fd : FuncData} (F : Fun K "_law_marks" "_law_marks" s__law_marks f fd) (T : Blt mg) (G__law_row : Cal P w K mg base 2 "_law_row" ["script", "at"] F__law_row) (G__law_degree : Cal P w K mg base 2 "_law_degree" ["graph", "vertex"] F__law_degree) : FnOk P w K mg base (L2.CX P w) 3 f fd ["script", "at", "graph"] (spD K mg F__law_marks) :=
  def_ok F sc__law_marks fun cdv A outer s H E hr => by
    have tk : Takes (cxOf (L2.CX P w) P w K mg base N__law_marks "_law_marks" (defScope s__law_marks) f cdv A outer s H E) (fun cls d _ H => E cls d H) := takes_of rfl rfl rfl rfl
    have po := passes_of (X := cxOf (L2.CX P w) P w K mg base N__law_marks "_law_marks" (defScope s__law_marks) f cdv A outer s H E) rfl
    have hx : Passes (L2.CX P w) (cxOf (L2.CX P w) P w K mg base N__law_marks "_law_marks" (defScope s__law_marks) f cdv A outer s H E) E := passes_call tk (fun _ _ _ _ h => h)
    exact (ss_cons (s_set (i := 3) sc__law_marks.nd rfl (.inr rfl) (d_cal G__law_row hr (by rfl) (a_cons (dv 0) (a_cons (dv 1) a_nil))))
      (ss_cons (s_forget 5 (s_lc (m := 4) rfl sc__law_marks.nd rfl rfl (sw_true rfl rfl rfl (by decide +kernel)) (i_rng1 (by rfl) T.range (a_cons (d_ix (sv 2) (sh_of d_int)) a_nil)) (blkOk_by (N := N__law_marks) (sc := defScope s__law_marks) (own := [("vertex", 5)]) (by decide +kernel)) (fun _ _ _ _ _ => pg_name (i := 5) sc__law_marks.nd rfl (.inl rfl)) (fun _ _ _ _ _ => (ts_one (t_cmp (oEq hr) (sh_of (d_op op_modD (sh_of (d_ix (sv 3) (sv 5))) (sh_of d_int))) (sh_of d_int) (nomark _)))) (fun _ _ _ _ _ => (dv 5))))
      (ss_cons (s_if (t_cmp (oGt hr) (sh_of (d_op op_modD (sh_of (d_ix (sv 3) (sh_of d_int))) (sh_of d_int))) (sh_of d_int) (nomark _))
      (ss_one (s_forget 5 (s_set (i := 4) sc__law_marks.nd rfl (.inl rfl) (d_op op_addD (sv 4) (sh_of (d_fresh (f_lc rfl sc__law_marks.nd (i_rng1 (by rfl) T.range (a_cons (d_ix (sv 2) (sh_of d_int)) a_nil)) (blkOk_by (N := N__law_marks) (sc := defScope s__law_marks) (own := [("vertex", 5)]) (by decide +kernel)) (fun _ _ _ _ _ => pg_name (i := 5) sc__law_marks.nd rfl (.inl rfl)) (fun _ _ _ _ _ => (ts_one (t_cmp (oEq hr) (sh_of (d_op op_modD (sh_of (d_cal G__law_degree hr (by rfl) (a_cons (dv 2) (a_cons (dv 5) a_nil)))) (sh_of d_int))) (sh_of d_int) (nomark _)))) (fun _ _ _ _ _ => (dv 5)))))))))
      ss_nil)
      (ss_cons (s_set (i := 4) sc__law_marks.nd rfl (.inl rfl) (dSortedSet T hr rfl (by rfl) (by rfl) (sv 4)))
      (ss_cons (s_for po rfl (i_rng1 (by rfl) T.range (a_cons (d_ix (sv 2) (sh_of d_int)) a_nil)) (g_name (i := 5) sc__law_marks.nd rfl (.inl rfl))
      (ss_one (s_if (PW.pt (tw_and (t_cmp (oLt hr) (sh_of (dLen T (by rfl) (as_cons (sv 4) as_nil))) (sh_of d_int) (nomark _)) (tw_and1 (t_cmp (oNi hr) (sv 5) (sv 4) (by rfl)))))
      (ss_one (s_set (i := 4) sc__law_marks.nd rfl (.inl rfl) (dSorted T hr (by rfl) (as_cons (sh_of (d_op op_addD (sv 4) (sh_of (d_lst (a_cons (dv 5) a_nil))))) as_nil))))
      ss_nil)))
      (ss_one (s_ret (dTuple T (by rfl) (as_cons (sv 4) as_nil)))))))))
abbrev s_in_range : Stmt := tp 9
abbrev N_in_range : List Str := ["value", "low", "high"]
theorem sc_in_range : FnScope N_in_range ["value", "low", "high"] (defScope s_in_range) := ⟨rfl, rfl, rfl, by decide +kernel, rfl, by decide +kernel, by decide +kernel⟩
def S_in_range : DL.Env → RS := (sRet (eAnd (eIsi isI (eVarS 0)) (eAnd (eNotT (eIsi isB (eVarS 0))) (eChain leD leD (eVarS 1) (eVarS 0) (eVarS 2)))))
def F_in_range : List PyData → Res PyData := runF 3 3 S_in_range
theorem u_in_range (a0 a1 a2 : PyData) : F_in_range [a0, a1, a2] = runR (S_in_range [.val a0, .val a1, .val a2]) := (ev_run rfl).trans rfl
theorem ok_in_range {f : Addr} {fd : FuncData} (F : Fun K "in_range" "in_range" s_in_range f fd) (T : Blt mg) : FnOk P w K mg base (L2.CX P w) 1 f fd ["value", "low", "high"] (spD K mg F_in_range) :=
  def_ok F sc_in_range fun cdv A outer s H E hr => by
    have tk : Takes (cxOf (L2.CX P w) P w K mg base N_in_range "in_range" (defScope s_in_range) f cdv A outer s H E) (fun cls d _ H => E cls d H) := takes_of rfl rfl rfl rfl
    have po := passes_of (X := cxOf (L2.CX P w) P w K mg base N_in_range "in_range" (defScope s_in_range) f cdv A outer s H E) rfl
    have hx : Passes (L2.CX P w) (cxOf (L2.CX P w) P w K mg base N_in_range "in_range" (defScope s_in_range) f cdv A outer s H E) E := passes_call tk (fun _ _ _ _ h => h)
    exact (ss_one (s_ret (d_and (dIsI T (by rfl) (by rfl) (sv 0)) (d_and (d_notT (sh_of (dIsB T (by rfl) (by rfl) (sv 0)))) (d_one (d_chain (oLe hr) (oLe hr) (sv 1) (sv 0) (sv 2)))))))
abbrev s_is_edge : Stmt := tp 10
abbrev N_is_edge : List Str := ["vertices", "value"]
theorem sc_is_edge : FnScope N_is_edge ["vertices", "value"] (defScope s_is_edge) := ⟨rfl, rfl, rfl, by decide +kernel, rfl, by decide +kernel, by decide +kernel⟩
def S_is_edge : DL.Env → RS := (sSeq (sIf (bOr (bNot (tru (eIsi isT (eVarS 1)))) (bOr (tst (e2 neD (eCall (call1 lenD) (eCons (eVarS 1) eNil)) (eC (.int 2)))) (bNot (tru (eCallN F_in_range (eCons (e2 ixD (eVarS 1) (eC (.int 0))) (eCons (eC (.int 0)) (eCons (e2 subD (eVarS 0) (eC (.int 1))) eNil))))))))
(sRet (eC (.bool false)))
sNil)
(sRet (eCallN F_in_range (eCons (e2 ixD (eVarS 1) (eC (.int 1))) (eCons (e2 addD (e2 ixD (eVarS 1) (eC (.int 0))) (eC (.int 1))) (eCons (e2 subD (eVarS 0) (eC (.int 1))) eNil))))))
def F_is_edge : List PyData → Res PyData := runF 2 2 S_is_edge
theorem u_is_edge (a0 a1 : PyData) : F_is_edge [a0, a1] = runR (S_is_edge [.val a0, .val a1]) := (ev_run rfl).trans rfl
theorem ok_is_edge {f : Addr} {fd : FuncData} (F : Fun K "is_edge" "is_edge" s_is_edge f fd) (T : Blt mg) (G_in_range : Cal P w K mg base 1 "in_range" ["value", "low", "high"] F_in_range) : FnOk P w K mg base (L2.CX P w) 2 f fd ["vertices", "value"] (spD K mg F_is_edge) :=
  def_ok F sc_is_edge fun cdv A outer s H E hr => by
    have tk : Takes (cxOf (L2.CX P w) P w K mg base N_is_edge "is_edge" (defScope s_is_edge) f cdv A outer s H E) (fun cls d _ H => E cls d H) := takes_of rfl rfl rfl rfl
    have po := passes_of (X := cxOf (L2.CX P w) P w K mg base N_is_edge "is_edge" (defScope s_is_edge) f cdv A outer s H E) rfl
    have hx : Passes (L2.CX P w) (cxOf (L2.CX P w) P w K mg base N_is_edge "is_edge" (defScope s_is_edge) f cdv A outer s H E) E := passes_call tk (fun _ _ _ _ h => h)
    exact (ss_cons (s_if (PW.pt (tw_or (t_not (t_tru (sh_of (dIsT T (by rfl) (by rfl) (sv 1))))) (tw_or (t_cmp (oNe hr) (sh_of (dLen T (by rfl) (as_cons (sv 1) as_nil))) (sh_of d_int) (nomark _)) (tw_or1 (t_not (t_tru (sh_of (d_cal G_in_range hr (by rfl) (a_cons (d_ix (sv 1) (sh_of d_int)) (a_cons d_int (a_cons (d_op op_subD (sv 0) (sh_of d_int)) a_nil)))))))))))
      (ss_one (s_ret d_bl))
      ss_nil)
      (ss_one (s_ret (d_cal G_in_range hr (by rfl) (a_cons (d_ix (sv 1) (sh_of d_int)) (a_cons (d_op op_addD (sh_of (d_ix (sv 1) (sh_of d_int))) (sh_of d_int)) (a_cons (d_op op_subD (sv 0) (sh_of d_int)) a_nil)))))))
abbrev s_is_graph : Stmt := tp 11
abbrev N_is_graph : List Str := ["value", "edge", "following"]
theorem sc_is_graph : FnScope N_is_graph ["value"] (defScope s_is_graph) := ⟨rfl, rfl, rfl, by decide +kernel, rfl, by decide +kernel, by decide +kernel⟩
def S_is_graph : DL.Env → RS := (sSeq (sIf (bOr (bNot (tru (eIsi isT (eVarS 0)))) (bOr (tst (e2 neD (eCall (call1 lenD) (eCons (eVarS 0) eNil)) (eC (.int 2)))) (bNot (tru (eCallN F_in_range (eCons (e2 ixD (eVarS 0) (eC (.int 0))) (eCons (eC (.int 2)) (eCons (eC (.int 6)) eNil))))))))
(sRet (eC (.bool false)))
sNil)
(sSeq (sIf (bOr (bNot (tru (eIsi isT (e2 ixD (eVarS 0) (eC (.int 1)))))) (tst (e2 gtD (eCall (call1 lenD) (eCons (e2 ixD (eVarS 0) (eC (.int 1))) eNil)) (eC (.int 9)))))
(sRet (eC (.bool false)))
sNil)
(sSeq (sIf (tru (eList (eLcA 1 (iSeq (e2 ixD (eVarS 0) (eC (.int 1)))) (bNot (tru (eCallN F_is_edge (eCons (e2 ixD (eVarS 0) (eC (.int 0))) (eCons (eVar 1) eNil))))) (eVar 1))))
(sRet (eC (.bool false)))
sNil)
(sRet (eNotT (eList (eLcB 1 2 (iZipD (eCons (e2 ixD (eVarS 0) (eC (.int 1))) (eCons (eSl (e2 ixD (eVarS 0) (eC (.int 1))) (oSome (eC (.int 1))) oNone) eNil))) (tst (e2 gtD (eVarS 1) (eVarS 2))) (eC (.int 1)))))))))
def F_is_graph : List PyData → Res PyData := runF 1 3 S_is_graph
theorem u_is_graph (a0 : PyData) : F_is_graph [a0] = runR (S_is_graph [.val a0, .no, .no]) := (ev_run rfl).trans rfl
theorem ok_is_graph {f : Addr} {fd : FuncData} (F : Fun K "is_graph" "is_graph" s_is_graph f fd) (T : Blt mg) (c_MAX_EDGES : ∃ t, mg "MAX_EDGES" = some (.int 9 t)) (c_MAX_VERTICES : ∃ t, mg "MAX_VERTICES" = some (.int 6 t)) (G_in_range : Cal P w K mg base 2 "in_range" ["value", "low", "high"] F_in_range) (G_is_edge : Cal P w K mg base 2 "is_edge" ["vertices", "value"] F_is_edge) : FnOk P w K mg base (L2.CX P w) 3 f fd ["value"] (spD K mg F_is_graph) :=
  def_ok F sc_is_graph fun cdv A outer s H E hr => by
    have tk : Takes (cxOf (L2.CX P w) P w K mg base N_is_graph "is_graph" (defScope s_is_graph) f cdv A outer s H E) (fun cls d _ H => E cls d H) := takes_of rfl rfl rfl rfl
    have po := passes_of (X := cxOf (L2.CX P w) P w K mg base N_is_graph "is_graph" (defScope s_is_graph) f cdv A outer s H E) rfl
    have hx : Passes (L2.CX P w) (cxOf (L2.CX P w) P w K mg base N_is_graph "is_graph" (defScope s_is_graph) f cdv A outer s H E) E := passes_call tk (fun _ _ _ _ h => h)
    exact (ss_cons (s_if (PW.pt (tw_or (t_not (t_tru (sh_of (dIsT T (by rfl) (by rfl) (sv 0))))) (tw_or (t_cmp (oNe hr) (sh_of (dLen T (by rfl) (as_cons (sv 0) as_nil))) (sh_of d_int) (nomark _)) (tw_or1 (t_not (t_tru (sh_of (d_cal G_in_range hr (by rfl) (a_cons (d_ix (sv 0) (sh_of d_int)) (a_cons d_int (a_cons (dGI c_MAX_VERTICES (by rfl)) a_nil)))))))))))
      (ss_one (s_ret d_bl))
      ss_nil)
      (ss_cons (s_if (PW.pt (tw_or (t_not (t_tru (sh_of (dIsT T (by rfl) (by rfl) (sh_of (d_ix (sv 0) (sh_of d_int))))))) (tw_or1 (t_cmp (oGt hr) (sh_of (dLen T (by rfl) (as_cons (sh_of (d_ix (sv 0) (sh_of d_int))) as_nil))) (sh_of (dGI c_MAX_EDGES (by rfl))) (nomark _)))))
      (ss_one (s_ret d_bl))
      ss_nil)
      (ss_cons (s_if (t_tru (sh_of (d_fresh (f_lc rfl sc_is_graph.nd (i_seqS (sh_of (d_ix (sv 0) (sh_of d_int)))) (blkOk_by (N := N_is_graph) (sc := defScope s_is_graph) (own := [("edge", 1)]) (by decide +kernel)) (fun _ _ _ _ _ => pg_name (i := 1) sc_is_graph.nd rfl (.inl rfl)) (fun _ _ _ _ _ => (ts_one (t_not (t_tru (sh_of (d_cal G_is_edge hr (by rfl) (a_cons (d_ix (sv 0) (sh_of d_int)) (a_cons (dv 1) a_nil)))))))) (fun _ _ _ _ _ => (dv 1))))))
      (ss_one (s_ret d_bl))
      ss_nil)
      (ss_one (s_ret (d_notT (sh_of (d_fresh (f_lc2 rfl sc_is_graph.nd (i_zip (by rfl) T.zip (a_cons (d_ix (sv 0) (sh_of d_int)) (a_cons (d_sl (sh_of (d_ix (sv 0) (sh_of d_int))) (o_some d_int) o_none) a_nil))) (blkOk_by (N := N_is_graph) (sc := defScope s_is_graph) (own := [("edge", 1), ("following", 2)]) (by decide +kernel)) (fun _ _ _ _ _ => pg_name (i := 1) sc_is_graph.nd rfl (.inl rfl)) (fun _ _ _ _ _ => pg_name (i := 2) sc_is_graph.nd rfl (.inl rfl)) (fun _ _ _ _ _ => (ts_one (t_cmp (oGt hr) (sv 1) (sv 2) (nomark _)))) (fun _ _ _ _ _ => d_int))))))))))
abbrev s_check_graph : Stmt := tp 12
abbrev N_check_graph : List Str := ["graph"]
theorem sc_check_graph : FnScope N_check_graph ["graph"] (defScope s_check_graph) := ⟨rfl, rfl, rfl, by decide +kernel, rfl, by decide +kernel, by decide +kernel⟩
def S_check_graph : DL.Env → RS := (sIf (bNot (tru (eCallN F_is_graph (eCons (eVar 0) eNil))))
(sRaise "InvalidGraph")
sNil)
def F_check_graph : List PyData → Res PyData := runF 1 1 S_check_graph
theorem u_check_graph (a0 : PyData) : F_check_graph [a0] = runR (S_check_graph [.val a0]) := (ev_run rfl).trans rfl
theorem ok_check_graph {f : Addr} {fd : FuncData} (F : Fun K "check_graph" "check_graph" s_check_graph f fd) (T : Blt mg) (X_InvalidGraph : ExcT K mg "InvalidGraph") (G_is_graph : Cal P w K mg base 3 "is_graph" ["value"] F_is_graph) : FnOk P w K mg base (L2.CX P w) 4 f fd ["graph"] (spD K mg F_check_graph) :=
  def_ok F sc_check_graph fun cdv A outer s H E hr => by
    have tk : Takes (cxOf (L2.CX P w) P w K mg base N_check_graph "check_graph" (defScope s_check_graph) f cdv A outer s H E) (fun cls d _ H => E cls d H) := takes_of rfl rfl rfl rfl
    have po := passes_of (X := cxOf (L2.CX P w) P w K mg base N_check_graph "check_graph" (defScope s_check_graph) f cdv A outer s H E) rfl
    have hx : Passes (L2.CX P w) (cxOf (L2.CX P w) P w K mg base N_check_graph "check_graph" (defScope s_check_graph) f cdv A outer s H E) E := passes_call tk (fun _ _ _ _ h => h)
    exact (ss_one (s_if (t_not (t_tru (sh_of (d_cal G_is_graph hr (by rfl) (a_cons (dv 0) a_nil)))))
      (ss_one (s_raiseT X_InvalidGraph rfl tk (by rfl)))
      ss_nil))
abbrev s_is_rising : Stmt := tp 13
abbrev N_is_rising : List Str := ["value", "count", "one", "other"]
theorem sc_is_rising : FnScope N_is_rising ["value", "count"] (defScope s_is_rising) := ⟨rfl, rfl, rfl, by decide +kernel, rfl, by decide +kernel, by decide +kernel⟩
def S_is_rising : DL.Env → RS := (sSeq (sIf (bOr (bNot (tru (eIsi isT (eVarS 0)))) (tru (eList (eLcA 2 (iSeq (eVarS 0)) (bNot (tru (eCallN F_in_range (eCons (eVar 2) (eCons (eC (.int 0)) (eCons (e2 subD (eVarS 1) (eC (.int 1))) eNil)))))) (eVar 2)))))
(sRet (eC (.bool false)))
sNil)
(sRet (eNotT (eList (eLcB 2 3 (iZipD (eCons (eVar 0) (eCons (eSl (eVarS 0) (oSome (eC (.int 1))) oNone) eNil))) (tst (e2 geD (eVarS 2) (eVarS 3))) (eC (.int 1)))))))
def F_is_rising : List PyData → Res PyData := runF 2 4 S_is_rising
theorem u_is_rising (a0 a1 : PyData) : F_is_rising [a0, a1] = runR (S_is_rising [.val a0, .val a1, .no, .no]) := (ev_run rfl).trans rfl
theorem ok_is_rising {f : Addr} {fd : FuncData} (F : Fun K "is_rising" "is_rising" s_is_rising f fd) (T : Blt mg) (G_in_range : Cal P w K mg base 1 "in_range" ["value", "low", "high"] F_in_range) : FnOk P w K mg base (L2.CX P w) 2 f fd ["value", "count"] (spD K mg F_is_rising) :=
  def_ok F sc_is_rising fun cdv A outer s H E hr => by
    have tk : Takes (cxOf (L2.CX P w) P w K mg base N_is_rising "is_rising" (defScope s_is_rising) f cdv A outer s H E) (fun cls d _ H => E cls d H) := takes_of rfl rfl rfl rfl
    have po := passes_of (X := cxOf (L2.CX P w) P w K mg base N_is_rising "is_rising" (defScope s_is_rising) f cdv A outer s H E) rfl
    have hx : Passes (L2.CX P w) (cxOf (L2.CX P w) P w K mg base N_is_rising "is_rising" (defScope s_is_rising) f cdv A outer s H E) E := passes_call tk (fun _ _ _ _ h => h)
    exact (ss_cons (s_if (PW.pt (tw_or (t_not (t_tru (sh_of (dIsT T (by rfl) (by rfl) (sv 0))))) (tw_or1 (t_tru (sh_of (d_fresh (f_lc rfl sc_is_rising.nd (i_seqS (sv 0)) (blkOk_by (N := N_is_rising) (sc := defScope s_is_rising) (own := [("one", 2)]) (by decide +kernel)) (fun _ _ _ _ _ => pg_name (i := 2) sc_is_rising.nd rfl (.inl rfl)) (fun _ _ _ _ _ => (ts_one (t_not (t_tru (sh_of (d_cal G_in_range hr (by rfl) (a_cons (dv 2) (a_cons d_int (a_cons (d_op op_subD (sv 1) (sh_of d_int)) a_nil))))))))) (fun _ _ _ _ _ => (dv 2)))))))))
      (ss_one (s_ret d_bl))
      ss_nil)
      (ss_one (s_ret (d_notT (sh_of (d_fresh (f_lc2 rfl sc_is_rising.nd (i_zip (by rfl) T.zip (a_cons (dv 0) (a_cons (d_sl (sv 0) (o_some d_int) o_none) a_nil))) (blkOk_by (N := N_is_rising) (sc := defScope s_is_rising) (own := [("one", 2), ("other", 3)]) (by decide +kernel)) (fun _ _ _ _ _ => pg_name (i := 2) sc_is_rising.nd rfl (.inl rfl)) (fun _ _ _ _ _ => pg_name (i := 3) sc_is_rising.nd rfl (.inl rfl)) (fun _ _ _ _ _ => (ts_one (t_cmp (oGe hr) (sv 2) (sv 3) (nomark _)))) (fun _ _ _ _ _ => d_int))))))))
abbrev s_are_marks : Stmt := tp 14
abbrev N_are_marks : List Str := ["graph", "value"]
theorem sc_are_marks : FnScope N_are_marks ["graph", "value"] (defScope s_are_marks) := ⟨rfl, rfl, rfl, by decide +kernel, rfl, by decide +kernel, by decide +kernel⟩
def S_are_marks : DL.Env → RS := (sRet (eAnd (eCallN F_is_rising (eCons (eVar 1) (eCons (e2 ixD (eVarS 0) (eC (.int 0))) eNil))) (e2 geD (eCall (call1 lenD) (eCons (eVarS 1) eNil)) (eC (.int 2)))))
def F_are_marks : List PyData → Res PyData := runF 2 2 S_are_marks
theorem u_are_marks (a0 a1 : PyData) : F_are_marks [a0, a1] = runR (S_are_marks [.val a0, .val a1]) := (ev_run rfl).trans rfl
theorem ok_are_marks {f : Addr} {fd : FuncData} (F : Fun K "are_marks" "are_marks" s_are_marks f fd) (T : Blt mg) (G_is_rising : Cal P w K mg base 2 "is_rising" ["value", "count"] F_is_rising) : FnOk P w K mg base (L2.CX P w) 3 f fd ["graph", "value"] (spD K mg F_are_marks) :=
  def_ok F sc_are_marks fun cdv A outer s H E hr => by
    have tk : Takes (cxOf (L2.CX P w) P w K mg base N_are_marks "are_marks" (defScope s_are_marks) f cdv A outer s H E) (fun cls d _ H => E cls d H) := takes_of rfl rfl rfl rfl
    have po := passes_of (X := cxOf (L2.CX P w) P w K mg base N_are_marks "are_marks" (defScope s_are_marks) f cdv A outer s H E) rfl
    have hx : Passes (L2.CX P w) (cxOf (L2.CX P w) P w K mg base N_are_marks "are_marks" (defScope s_are_marks) f cdv A outer s H E) E := passes_call tk (fun _ _ _ _ h => h)
    exact (ss_one (s_ret (d_and (d_cal G_is_rising hr (by rfl) (a_cons (dv 1) (a_cons (d_ix (sv 0) (sh_of d_int)) a_nil))) (d_one (d_cmp (oGe hr) (sh_of (dLen T (by rfl) (as_cons (sv 1) as_nil))) (sh_of d_int) (nomark _))))))
abbrev s_check_marks : Stmt := tp 15
abbrev N_check_marks : List Str := ["graph", "marks"]
theorem sc_check_marks : FnScope N_check_marks ["graph", "marks"] (defScope s_check_marks) := ⟨rfl, rfl, rfl, by decide +kernel, rfl, by decide +kernel, by decide +kernel⟩
def S_check_marks : DL.Env → RS := (sSeq (sExpr (eCall F_check_graph (eCons (eVar 0) eNil)))
(sIf (bNot (tru (eCallN F_are_marks (eCons (eVar 0) (eCons (eVar 1) eNil)))))
(sRaise "InvalidMarks")
sNil))
def F_check_marks : List PyData → Res PyData := runF 2 2 S_check_marks
theorem u_check_marks (a0 a1 : PyData) : F_check_marks [a0, a1] = runR (S_check_marks [.val a0, .val a1]) := (ev_run rfl).trans rfl
theorem ok_check_marks {f : Addr} {fd : FuncData} (F : Fun K "check_marks" "check_marks" s_check_marks f fd) (T : Blt mg) (X_InvalidMarks : ExcT K mg "InvalidMarks") (G_check_graph : Cal P w K mg base 4 "check_graph" ["graph"] F_check_graph) (G_are_marks : Cal P w K mg base 4 "are_marks" ["graph", "value"] F_are_marks) : FnOk P w K mg base (L2.CX P w) 5 f fd ["graph", "marks"] (spD K mg F_check_marks) :=
  def_ok F sc_check_marks fun cdv A outer s H E hr => by
    have tk : Takes (cxOf (L2.CX P w) P w K mg base N_check_marks "check_marks" (defScope s_check_marks) f cdv A outer s H E) (fun cls d _ H => E cls d H) := takes_of rfl rfl rfl rfl
    have po := passes_of (X := cxOf (L2.CX P w) P w K mg base N_check_marks "check_marks" (defScope s_check_marks) f cdv A outer s H E) rfl
    have hx : Passes (L2.CX P w) (cxOf (L2.CX P w) P w K mg base N_check_marks "check_marks" (defScope s_check_marks) f cdv A outer s H E) E := passes_call tk (fun _ _ _ _ h => h)
    exact (ss_cons (s_expr (d_calX G_check_graph hr hx (by rfl) (a_cons (dv 0) a_nil)))
      (ss_one (s_if (t_not (t_tru (sh_of (d_cal G_are_marks hr (by rfl) (a_cons (dv 0) (a_cons (dv 1) a_nil))))))
      (ss_one (s_raiseT X_InvalidMarks rfl tk (by rfl)))
      ss_nil)))
abbrev s_Planner___init__ : Stmt := (clsBody (tp 27)).getD 0 (.Pass ⟨0, 0, 0, 0⟩)
abbrev N_Planner___init__ : List Str := ["self", "graph", "marks"]
theorem sc_Planner___init__ : FnScope N_Planner___init__ ["self", "graph", "marks"] (defScope s_Planner___init__) := ⟨rfl, rfl, rfl, by decide +kernel, rfl, by decide +kernel, by decide +kernel⟩
def F_Planner___init__ : List PyData → Res Fd := initI F_check_marks
theorem ok_Planner___init__ {f : Addr} {fd : FuncData} (F : Fun K "__init__" "Planner.__init__" s_Planner___init__ f fd) (PT : PlT K) (G_check_marks : Cal P w K mg base 5 "check_marks" ["graph", "marks"] F_check_marks) : FnOk P w K mg base (L2.CX P w) 6 f fd ["self", "graph", "marks"] (spM K mg (runM 3 3 (initS F_check_marks))) :=
  defM_ok F sc_Planner___init__ fun cdv A outer s H E hr => by
    have tk : Takes (cxOf (L2.CX P w) P w K mg base N_Planner___init__ "Planner.__init__" (defScope s_Planner___init__) f cdv A outer s H E) (fun cls d _ H => E cls d H) := takes_of rfl rfl rfl rfl
    have hx : Passes (L2.CX P w) (cxOf (L2.CX P w) P w K mg base N_Planner___init__ "Planner.__init__" (defScope s_Planner___init__) f cdv A outer s H E) E := passes_call tk (fun _ _ _ _ h => h)
    exact o_cons (o_pure (s_expr (d_calX G_check_marks hr hx (by rfl) (a_cons (dv 1) (a_cons (dv 2) a_nil))))) (o_cons (o_fld (i := 0) PT.cl PT.n1 rfl (.inl rfl) (ox_pure (dv 1))) (o_cons (o_fld (i := 0) PT.cl PT.n2 rfl (.inl rfl) (ox_pure (dv 2))) (o_cons (o_fld (i := 0) PT.cl PT.n3 rfl (.inl rfl) (ox_pure (d_tup a_nil))) (o_one (o_fld (i := 0) PT.cl PT.n4 rfl (.inl rfl) (ox_pure d_int))))))
abbrev s_Planner_duplicate : Stmt := (clsBody (tp 27)).getD 9 (.Pass ⟨0, 0, 0, 0⟩)
abbrev N_Planner_duplicate : List Str := ["self", "result"]
theorem sc_Planner_duplicate : FnScope N_Planner_duplicate ["self"] (defScope s_Planner_duplicate) := ⟨rfl, rfl, rfl, by decide +kernel, rfl, by decide +kernel, by decide +kernel⟩
def R_Planner_duplicate : List PyData → Res Fd := dupR F_Planner___init__
def F_Planner_duplicate : List PyData → Res PyData := mkR R_Planner_duplicate
theorem ok_Planner_duplicate {f : Addr} {fd : FuncData} (F : Fun K "duplicate" "Planner.duplicate" s_Planner_duplicate f fd) (T : Blt mg) (PT : PlT K) (G_Planner___init__ : CalI P w K mg base 6 ["self", "graph", "marks"] F_Planner___init__) : FnOk P w K mg base (L2.CX P w) 8 f fd ["self"] (spB K mg R_Planner_duplicate) :=
  defB_ok (N := N_Planner_duplicate) (S := dupS F_Planner___init__) (dup_ok F_Planner___init__) F sc_Planner_duplicate fun cdv A outer s H E hr => by
    exact o_cons (o_set (i := 1) sc_Planner_duplicate.nd rfl (.inl rfl) (ox_new G_Planner___init__ hr (by rfl) (a_cons (d_fld PT.cl PT.n1 (dv 0)) (a_cons (d_fld PT.cl PT.n2 (dv 0)) a_nil)))) (o_cons (o_fld (i := 1) PT.cl PT.n3 rfl (.inl rfl) (ox_pure (d_fld PT.cl PT.n3 (dv 0)))) (o_cons (o_fld (i := 1) PT.cl PT.n4 rfl (.inl rfl) (ox_pure (dLen T (by rfl) (as_cons (sh_of (d_fld PT.cl PT.n3 (dv 0))) as_nil)))) (o_one (o_ret (ox_pure (dv 1))))))
abbrev s_paths_from : Stmt := tp 19
abbrev N_paths_from : List Str := ["graph", "marks", "path", "used", "found", "number", "edge", "vertex"]
theorem sc_paths_from : FnScope N_paths_from ["graph", "marks", "path", "used"] (defScope s_paths_from) := ⟨rfl, rfl, rfl, by decide +kernel, rfl, by decide +kernel, by decide +kernel⟩
def L_paths_from_1 (R : List PyData → Res PyData) : DL.Env → RS := (sIf (bAnd (tst (e2 inD (e2 ixD (eVarS 2) (eNeg (eC (.int 1)))) (eVarS 6))) (tst (e2 niD (eVarS 5) (eVarS 3))))
(sSeq (sSet 7 (e2 subD (eCall (call1 sumD) (eCons (eVarS 6) eNil)) (e2 ixD (eVarS 2) (eNeg (eC (.int 1))))))
(sIf (bAnd (tst (e2 inD (eVarS 7) (eVarS 1))) (tst (e2 niD (eVarS 7) (eVarS 2))))
(sApp 4 (eTup (eCons (e2 addD (eVarS 2) (eTup (eCons (eVar 7) eNil))) (eCons (e2 addD (eVarS 3) (eTup (eCons (eVar 5) eNil))) eNil))))
(sIf (bAnd (tst (e2 niD (eVarS 7) (eVarS 1))) (tst (e2 niD (eVarS 7) (eVarS 2))))
(sExt 4 (eCallN R (eCons (eVar 0) (eCons (eVar 1) (eCons (e2 addD (eVarS 2) (eTup (eCons (eVar 7) eNil))) (eCons (e2 addD (eVarS 3) (eTup (eCons (eVar 5) eNil))) eNil))))))
sNil)))
sNil)
def S_paths_from (R : List PyData → Res PyData) : DL.Env → RS := (sSeq (sSetF 4 eNil)
(sSeq (sFor (iEnumD (eCons (e2 ixD (eVarS 0) (eC (.int 1))) eNil)) (gN2 5 6)
(L_paths_from_1 R))
(sRetO 4)))
def F_paths_fromR : Nat → List PyData → Res PyData
  | 0 => fun _ => .bad
  | k + 1 => runF 4 8 (S_paths_from (F_paths_fromR k))
def F_paths_from : List PyData → Res PyData := F_paths_fromR 11
theorem u_paths_from (k : Nat) (a0 a1 a2 a3 : PyData) : F_paths_fromR (k + 1) [a0, a1, a2, a3] = runR (S_paths_from (F_paths_fromR k) [.val a0, .val a1, .val a2, .val a3, .no, .no, .no, .no]) := (ev_run rfl).trans rfl
theorem ok_paths_from {R : List PyData → Res PyData} {k : Nat} {f : Addr} {fd : FuncData} (F : Fun K "paths_from" "paths_from" s_paths_from f fd) (T : Blt mg) (G_paths_from : Cal P w K mg base (k + 1) "paths_from" ["graph", "marks", "path", "used"] R) : FnOk P w K mg base (L2.CX P w) (k + 1 + 1) f fd ["graph", "marks", "path", "used"] (spD K mg (runF 4 8 (S_paths_from R))) :=
  def_ok F sc_paths_from fun cdv A outer s H E hr => by
    have tk : Takes (cxOf (L2.CX P w) P w K mg base N_paths_from "paths_from" (defScope s_paths_from) f cdv A outer s H E) (fun cls d _ H => E cls d H) := takes_of rfl rfl rfl rfl
    have po := passes_of (X := cxOf (L2.CX P w) P w K mg base N_paths_from "paths_from" (defScope s_paths_from) f cdv A outer s H E) rfl
    have hx : Passes (L2.CX P w) (cxOf (L2.CX P w) P w K mg base N_paths_from "paths_from" (defScope s_paths_from) f cdv A outer s H E) E := passes_call tk (fun _ _ _ _ h => h)
    exact (ss_cons (s_setF (i := 4) sc_paths_from.nd rfl (.inl rfl) f_nil)
      (ss_cons (s_for po rfl (i_enum (by rfl) T.enumerate (a_cons (d_ix (sv 0) (sh_of d_int)) a_nil)) (g_pair rfl (pg_name (i := 5) sc_paths_from.nd rfl (.inl rfl)) (pg_name (i := 6) sc_paths_from.nd rfl (.inl rfl)))
      (ss_one (s_if (PW.pt (tw_and (t_cmp (oIn hr) (sh_of (d_ix (sv 2) (sh_of (dNeg d_int)))) (sv 6) (by rfl)) (tw_and1 (t_cmp (oNi hr) (sv 5) (sv 3) (by rfl)))))
      (ss_cons (s_set (i := 7) sc_paths_from.nd rfl (.inl rfl) (d_op op_subD (sh_of (dSum T rfl (by rfl) (as_cons (sv 6) as_nil))) (sh_of (d_ix (sv 2) (sh_of (dNeg d_int))))))
      (ss_one (s_if (PW.pt (tw_and (t_cmp (oIn hr) (sv 7) (sv 1) (by rfl)) (tw_and1 (t_cmp (oNi hr) (sv 7) (sv 2) (by rfl)))))
      (ss_one (s_app (i := 4) rfl (.inl rfl) (d_tup (a_cons (d_op op_addD (sv 2) (sh_of (d_tup (a_cons (dv 7) a_nil)))) (a_cons (d_op op_addD (sv 3) (sh_of (d_tup (a_cons (dv 5) a_nil)))) a_nil)))))
      (ss_one (s_if (PW.pt (tw_and (t_cmp (oNi hr) (sv 7) (sv 1) (by rfl)) (tw_and1 (t_cmp (oNi hr) (sv 7) (sv 2) (by rfl)))))
      (ss_one (s_ext (i := 4) rfl (.inl rfl) (d_cal G_paths_from hr (by rfl) (a_cons (dv 0) (a_cons (dv 1) (a_cons (d_op op_addD (sv 2) (sh_of (d_tup (a_cons (dv 7) a_nil)))) (a_cons (d_op op_addD (sv 3) (sh_of (d_tup (a_cons (dv 5) a_nil)))) a_nil)))))))
      ss_nil)))))
      ss_nil)))
      (ss_one (s_retO (i := 4) rfl (.inl rfl)))))
abbrev s_every_path : Stmt := tp 20
abbrev N_every_path : List Str := ["graph", "marks", "result", "mark", "rows", "path", "numbers"]
theorem sc_every_path : FnScope N_every_path ["graph", "marks"] (defScope s_every_path) := ⟨rfl, rfl, rfl, by decide +kernel, rfl, by decide +kernel, by decide +kernel⟩
def L_every_path_1 : DL.Env → RS := (sSeq (sSet 4 (eCallN F_paths_from (eCons (eVar 0) (eCons (eVar 1) (eCons (eTup (eCons (eVar 3) eNil)) (eCons (eTup eNil) eNil))))))
(sExt 2 (eList (eLcB 5 6 (iSeq (eVarS 4)) (tst (e2 gtD (e2 ixD (eVarS 5) (eNeg (eC (.int 1)))) (eVarS 3))) (eTup (eCons (eVar 5) (eCons (eVar 6) eNil)))))))
def S_every_path : DL.Env → RS := (sSeq (sSetF 2 eNil)
(sSeq (sFor (iSeq (eVar 1)) (gN 3)
L_every_path_1)
(sRet (eCall (call1 sortedD) (eCons (eVarS 2) eNil)))))
def F_every_path : List PyData → Res PyData := runF 2 7 S_every_path
theorem u_every_path (a0 a1 : PyData) : F_every_path [a0, a1] = runR (S_every_path [.val a0, .val a1, .no, .no, .no, .no, .no]) := (ev_run rfl).trans rfl
theorem ok_every_path {f : Addr} {fd : FuncData} (F : Fun K "every_path" "every_path" s_every_path f fd) (T : Blt mg) (G_paths_from : Cal P w K mg base 12 "paths_from" ["graph", "marks", "path", "used"] F_paths_from) : FnOk P w K mg base (L2.CX P w) 13 f fd ["graph", "marks"] (spD K mg F_every_path) :=
  def_ok F sc_every_path fun cdv A outer s H E hr => by
    have tk : Takes (cxOf (L2.CX P w) P w K mg base N_every_path "every_path" (defScope s_every_path) f cdv A outer s H E) (fun cls d _ H => E cls d H) := takes_of rfl rfl rfl rfl
    have po := passes_of (X := cxOf (L2.CX P w) P w K mg base N_every_path "every_path" (defScope s_every_path) f cdv A outer s H E) rfl
    have hx : Passes (L2.CX P w) (cxOf (L2.CX P w) P w K mg base N_every_path "every_path" (defScope s_every_path) f cdv A outer s H E) E := passes_call tk (fun _ _ _ _ h => h)
    exact (ss_cons (s_setF (i := 2) sc_every_path.nd rfl (.inl rfl) f_nil)
      (ss_cons (s_for po rfl (i_seq (dv 1)) (g_name (i := 3) sc_every_path.nd rfl (.inr rfl))
      (ss_cons (s_set (i := 4) sc_every_path.nd rfl (.inl rfl) (d_cal G_paths_from hr (by rfl) (a_cons (dv 0) (a_cons (dv 1) (a_cons (d_tup (a_cons (dv 3) a_nil)) (a_cons (d_tup a_nil) a_nil))))))
      (ss_one (s_ext (i := 2) rfl (.inl rfl) (d_fresh (f_lc2 rfl sc_every_path.nd (i_seqS (sv 4)) (blkOk_by (N := N_every_path) (sc := defScope s_every_path) (own := [("path", 5), ("numbers", 6)]) (by decide +kernel)) (fun _ _ _ _ _ => pg_name (i := 5) sc_every_path.nd rfl (.inl rfl)) (fun _ _ _ _ _ => pg_name (i := 6) sc_every_path.nd rfl (.inl rfl)) (fun _ _ _ _ _ => (ts_one (t_cmp (oGt hr) (sh_of (d_ix (sv 5) (sh_of (dNeg d_int)))) (sv 3) (nomark _)))) (fun _ _ _ _ _ => (d_tup (a_cons (dv 5) (a_cons (dv 6) a_nil))))))))))
      (ss_one (s_ret (dSorted T hr (by rfl) (as_cons (sv 2) as_nil))))))
abbrev s_pack : Stmt := tp 21
abbrev N_pack : List Str := ["rows", "place", "used", "chosen", "best", "following", "path", "numbers", "number"]
theorem sc_pack : FnScope N_pack ["rows", "place", "used", "chosen", "best"] (defScope s_pack) := ⟨rfl, rfl, rfl, by decide +kernel, rfl, by decide +kernel, by decide +kernel⟩
def L_pack_1 (R : List PyData → List PyData → Res (List PyData)) : DL.Env → RJ := (jSeq (jAsg (gN2 6 7) (e2 ixD (eVarS 0) (eVarS 5)))
(jSeq (jIf (tst (e2 leD (e2 subD (e2 addD (eCall (call1 lenD) (eCons (eVarS 3) eNil)) (eCall (call1 lenD) (eCons (eVarS 0) eNil))) (eVarS 5)) (eCall (call1 lenD) (eCons (e2 ixD (eVarS 4) (eC (.int 0))) eNil))))
jRet
jNil)
(jIf (bNot (tru (eList (eLcA 8 (iSeq (eVarS 7)) (tst (e2 inD (eVarS 8) (eVarS 2))) (eVar 8)))))
(jCall 4 R (eCons (eVar 0) (eCons (e2 addD (eVarS 5) (eC (.int 1))) (eCons (e2 addD (eVarS 2) (eVarS 7)) (eCons (e2 addD (eVarS 3) (eTup (eCons (eVar 6) eNil))) eNil)))))
jNil)))
def S_pack (R : List PyData → List PyData → Res (List PyData)) : DL.Env → RJ := (jSeq (jIf (tst (e2 gtD (eCall (call1 lenD) (eCons (eVarS 3) eNil)) (eCall (call1 lenD) (eCons (e2 ixD (eVarS 4) (eC (.int 0))) eNil))))
(jPut 4 (eVar 3))
jNil)
(jFor (iRng2D (eCons (eVar 1) (eCons (eCall (call1 lenD) (eCons (eVarS 0) eNil)) eNil))) (gN 5)
(L_pack_1 R)))
def F_packR : Nat → List PyData → List PyData → Res (List PyData)
  | 0 => fun _ _ => .bad
  | k + 1 => runJ 4 9 (S_pack (F_packR k))
def F_pack : List PyData → List PyData → Res (List PyData) := F_packR 11
theorem u_pack (k : Nat) (a0 a1 a2 a3 : PyData) (es : List PyData) : F_packR (k + 1) [a0, a1, a2, a3] es = outJ 4 (S_pack (F_packR k) [.val a0, .val a1, .val a2, .val a3, .own es, .no, .no, .no, .no]) := by
  rw [F_packR, runJ, if_pos (by rfl)]
  rfl
theorem ok_pack {R : List PyData → List PyData → Res (List PyData)} {k : Nat} {f : Addr} {fd : FuncData} (F : Fun K "pack" "pack" s_pack f fd) (T : Blt mg) (G_pack : CalO P w K mg base (k + 1) "pack" ["rows", "place", "used", "chosen", "best"] R) : FnOk P w K mg base (L2.CX P w) (k + 1 + 1) f fd ["rows", "place", "used", "chosen", "best"] (spO K (runJ 4 9 (S_pack R))) :=
  defO_ok F sc_pack rfl (by decide) fun a cdv A outer s H E hr => by
    have tk : Takes (cxOf (L2.CX P w) P w K mg base N_pack "pack" (defScope s_pack) f cdv A outer s H E) (fun cls d _ H => E cls d H) := takes_of rfl rfl rfl rfl
    have po := passes_of (X := cxOf (L2.CX P w) P w K mg base N_pack "pack" (defScope s_pack) f cdv A outer s H E) rfl
    have hx : Passes (L2.CX P w) (cxOf (L2.CX P w) P w K mg base N_pack "pack" (defScope s_pack) f cdv A outer s H E) E := passes_call tk (fun _ _ _ _ h => h)
    exact (j_cons (j_if (mg := mg) (E := E) (t_cmp (oGt hr) (sh_of (dLen T (by rfl) (as_cons (sv 3) as_nil))) (sh_of (dLen T (by rfl) (as_cons (sh_of (d_ix (sv 4) (sh_of d_int))) as_nil))) (nomark _))
      (j_one (j_put (mg := mg) (E := E) (i := 4) rfl (.inl rfl) (dv 3)))
      j_nil)
      (j_one (j_for (mg := mg) (E := E) po rfl (i_rng2 (by rfl) T.range (a_cons (dv 1) (a_cons (dLen T (by rfl) (as_cons (sv 0) as_nil)) a_nil))) (gj_name (keepJ (by decide)) (pg_name (i := 5) sc_pack.nd rfl (.inl rfl)))
      (j_cons (j_asg (mg := mg) (E := E) (d_ix (sv 0) (sv 5)) (gj_pair (keepJ (by decide)) (keepJ (by decide)) rfl (pg_name (i := 6) sc_pack.nd rfl (.inl rfl)) (pg_name (i := 7) sc_pack.nd rfl (.inl rfl))))
      (j_cons (j_if (mg := mg) (E := E) (t_cmp (oLe hr) (sh_of (d_op op_subD (sh_of (d_op op_addD (sh_of (dLen T (by rfl) (as_cons (sv 3) as_nil))) (sh_of (dLen T (by rfl) (as_cons (sv 0) as_nil))))) (sv 5))) (sh_of (dLen T (by rfl) (as_cons (sh_of (d_ix (sv 4) (sh_of d_int))) as_nil))) (nomark _))
      (j_one j_ret)
      j_nil)
      (j_one (j_if (mg := mg) (E := E) (t_not (t_tru (sh_of (d_fresh (f_lc rfl sc_pack.nd (i_seqS (sv 7)) (blkOk_by (N := N_pack) (sc := defScope s_pack) (own := [("number", 8)]) (by decide +kernel)) (fun _ _ _ _ _ => pg_name (i := 8) sc_pack.nd rfl (.inl rfl)) (fun _ _ _ _ _ => (ts_one (t_cmp (oIn hr) (sv 8) (sv 2) (by rfl)))) (fun _ _ _ _ _ => (dv 8)))))))
      (j_one (j_call (i := 4) (E := E) G_pack hr (by rfl) (ao_cons (dv 0) (ao_cons (d_op op_addD (sv 5) (sh_of d_int)) (ao_cons (d_op op_addD (sv 2) (sv 7)) (ao_cons (d_op op_addD (sv 3) (sh_of (d_tup (a_cons (dv 6) a_nil)))) (ao_own (i := 4) rfl (.inl rfl))))))))
      j_nil)))))))
abbrev s_system_of : Stmt := tp 22
abbrev N_system_of : List Str := ["graph", "marks", "rows", "best"]
theorem sc_system_of : FnScope N_system_of ["graph", "marks"] (defScope s_system_of) := ⟨rfl, rfl, rfl, by decide +kernel, rfl, by decide +kernel, by decide +kernel⟩
def S_system_of : DL.Env → RS := (sSeq (sSet 2 (eCallN F_every_path (eCons (eVar 0) (eCons (eVar 1) eNil))))
(sSeq (sSetF 3 (eLO (eCons (eTup eNil) eNil)))
(sSeq (sCallO 3 F_pack (eCons (eVar 2) (eCons (eC (.int 0)) (eCons (eTup eNil) (eCons (eTup eNil) eNil)))))
(sRet (e2 ixD (eVarS 3) (eC (.int 0)))))))
def F_system_of : List PyData → Res PyData := runF 2 4 S_system_of
theorem u_system_of (a0 a1 : PyData) : F_system_of [a0, a1] = runR (S_system_of [.val a0, .val a1, .no, .no]) := (ev_run rfl).trans rfl
theorem ok_system_of {f : Addr} {fd : FuncData} (F : Fun K "system_of" "system_of" s_system_of f fd) (T : Blt mg) (G_every_path : Cal P w K mg base 13 "every_path" ["graph", "marks"] F_every_path) (G_pack : CalO P w K mg base 13 "pack" ["rows", "place", "used", "chosen", "best"] F_pack) : FnOk P w K mg base (L2.CX P w) 14 f fd ["graph", "marks"] (spD K mg F_system_of) :=
  def_ok F sc_system_of fun cdv A outer s H E hr => by
    have tk : Takes (cxOf (L2.CX P w) P w K mg base N_system_of "system_of" (defScope s_system_of) f cdv A outer s H E) (fun cls d _ H => E cls d H) := takes_of rfl rfl rfl rfl
    have po := passes_of (X := cxOf (L2.CX P w) P w K mg base N_system_of "system_of" (defScope s_system_of) f cdv A outer s H E) rfl
    have hx : Passes (L2.CX P w) (cxOf (L2.CX P w) P w K mg base N_system_of "system_of" (defScope s_system_of) f cdv A outer s H E) E := passes_call tk (fun _ _ _ _ h => h)
    exact (ss_cons (s_set (i := 2) sc_system_of.nd rfl (.inl rfl) (d_cal G_every_path hr (by rfl) (a_cons (dv 0) (a_cons (dv 1) a_nil))))
      (ss_cons (s_setF (i := 3) sc_system_of.nd rfl (.inl rfl) (f_lst (a_cons (d_tup a_nil) a_nil)))
      (ss_cons (s_callO (i := 3) G_pack hr (by rfl) (ao_cons (dv 2) (ao_cons d_int (ao_cons (d_tup a_nil) (ao_cons (d_tup a_nil) (ao_own (i := 3) rfl (.inl rfl)))))))
      (ss_one (s_ret (d_ix (sv 3) (sh_of d_int)))))))
abbrev s_system : Stmt := tp 23
abbrev N_system : List Str := ["graph", "marks"]
theorem sc_system : FnScope N_system ["graph", "marks"] (defScope s_system) := ⟨rfl, rfl, rfl, by decide +kernel, rfl, by decide +kernel, by decide +kernel⟩
def S_system : DL.Env → RS := (sSeq (sExpr (eCall F_check_marks (eCons (eVar 0) (eCons (eVar 1) eNil))))
(sRet (eCallN F_system_of (eCons (eVar 0) (eCons (eVar 1) eNil)))))
def F_system : List PyData → Res PyData := runF 2 2 S_system
theorem u_system (a0 a1 : PyData) : F_system [a0, a1] = runR (S_system [.val a0, .val a1]) := (ev_run rfl).trans rfl
theorem ok_system {f : Addr} {fd : FuncData} (F : Fun K "system" "system" s_system f fd) (T : Blt mg) (G_check_marks : Cal P w K mg base 14 "check_marks" ["graph", "marks"] F_check_marks) (G_system_of : Cal P w K mg base 14 "system_of" ["graph", "marks"] F_system_of) : FnOk P w K mg base (L2.CX P w) 15 f fd ["graph", "marks"] (spD K mg F_system) :=
  def_ok F sc_system fun cdv A outer s H E hr => by
    have tk : Takes (cxOf (L2.CX P w) P w K mg base N_system "system" (defScope s_system) f cdv A outer s H E) (fun cls d _ H => E cls d H) := takes_of rfl rfl rfl rfl
    have po := passes_of (X := cxOf (L2.CX P w) P w K mg base N_system "system" (defScope s_system) f cdv A outer s H E) rfl
    have hx : Passes (L2.CX P w) (cxOf (L2.CX P w) P w K mg base N_system "system" (defScope s_system) f cdv A outer s H E) E := passes_call tk (fun _ _ _ _ h => h)
    exact (ss_cons (s_expr (d_calX G_check_marks hr hx (by rfl) (a_cons (dv 0) (a_cons (dv 1) a_nil))))
      (ss_one (s_ret (d_cal G_system_of hr (by rfl) (a_cons (dv 0) (a_cons (dv 1) a_nil))))))
abbrev s_is_path_of : Stmt := tp 24
abbrev N_is_path_of : List Str := ["graph", "marks", "value", "vertex", "one", "other"]
theorem sc_is_path_of : FnScope N_is_path_of ["graph", "marks", "value"] (defScope s_is_path_of) := ⟨rfl, rfl, rfl, by decide +kernel, rfl, by decide +kernel, by decide +kernel⟩
def S_is_path_of : DL.Env → RS := (sSeq (sIf (bOr (bNot (tru (eIsi isT (eVarS 2)))) (tst (e2 ltD (eCall (call1 lenD) (eCons (eVarS 2) eNil)) (eC (.int 2)))))
(sRet (eC (.bool false)))
sNil)
(sSeq (sIf (bOr (tru (eList (eLcA 3 (iSeq (eVarS 2)) (bNot (tru (eCallN F_in_range (eCons (eVar 3) (eCons (eC (.int 0)) (eCons (e2 subD (e2 ixD (eVarS 0) (eC (.int 0))) (eC (.int 1))) eNil)))))) (eVar 3)))) (tst (e2 neD (eLenSet (eVarS 2)) (eCall (call1 lenD) (eCons (eVarS 2) eNil)))))
(sRet (eC (.bool false)))
sNil)
(sSeq (sIf (bOr (tst (e2 niD (e2 ixD (eVarS 2) (eC (.int 0))) (eVarS 1))) (bOr (tst (e2 niD (e2 ixD (eVarS 2) (eNeg (eC (.int 1)))) (eVarS 1))) (tru (eList (eLcA 3 (iSeq (eSl (eVarS 2) (oSome (eC (.int 1))) (oSome (eNeg (eC (.int 1)))))) (tst (e2 inD (eVarS 3) (eVarS 1))) (eVar 3))))))
(sRet (eC (.bool false)))
sNil)
(sRet (eNotT (eList (eLcB 4 5 (iZipD (eCons (eVar 2) (eCons (eSl (eVarS 2) (oSome (eC (.int 1))) oNone) eNil))) (tst (e2 niD (eTup (eCons (eCall (call2 min2D) (eCons (eVarS 4) (eCons (eVarS 5) eNil))) (eCons (eCall (call2 max2D) (eCons (eVarS 4) (eCons (eVarS 5) eNil))) eNil))) (e2 ixD (eVarS 0) (eC (.int 1))))) (eC (.int 1)))))))))
def F_is_path_of : List PyData → Res PyData := runF 3 6 S_is_path_of
theorem u_is_path_of (a0 a1 a2 : PyData) : F_is_path_of [a0, a1, a2] = runR (S_is_path_of [.val a0, .val a1, .val a2, .no, .no, .no]) := (ev_run rfl).trans rfl
theorem ok_is_path_of {f : Addr} {fd : FuncData} (F : Fun K "is_path_of" "is_path_of" s_is_path_of f fd) (T : Blt mg) (G_in_range : Cal P w K mg base 1 "in_range" ["value", "low", "high"] F_in_range) : FnOk P w K mg base (L2.CX P w) 2 f fd ["graph", "marks", "value"] (spD K mg F_is_path_of) :=
  def_ok F sc_is_path_of fun cdv A outer s H E hr => by
    have tk : Takes (cxOf (L2.CX P w) P w K mg base N_is_path_of "is_path_of" (defScope s_is_path_of) f cdv A outer s H E) (fun cls d _ H => E cls d H) := takes_of rfl rfl rfl rfl
    have po := passes_of (X := cxOf (L2.CX P w) P w K mg base N_is_path_of "is_path_of" (defScope s_is_path_of) f cdv A outer s H E) rfl
    have hx : Passes (L2.CX P w) (cxOf (L2.CX P w) P w K mg base N_is_path_of "is_path_of" (defScope s_is_path_of) f cdv A outer s H E) E := passes_call tk (fun _ _ _ _ h => h)
    exact (ss_cons (s_if (PW.pt (tw_or (t_not (t_tru (sh_of (dIsT T (by rfl) (by rfl) (sv 2))))) (tw_or1 (t_cmp (oLt hr) (sh_of (dLen T (by rfl) (as_cons (sv 2) as_nil))) (sh_of d_int) (nomark _)))))
      (ss_one (s_ret d_bl))
      ss_nil)
      (ss_cons (s_if (PW.pt (tw_or (t_tru (sh_of (d_fresh (f_lc rfl sc_is_path_of.nd (i_seqS (sv 2)) (blkOk_by (N := N_is_path_of) (sc := defScope s_is_path_of) (own := [("vertex", 3)]) (by decide +kernel)) (fun _ _ _ _ _ => pg_name (i := 3) sc_is_path_of.nd rfl (.inl rfl)) (fun _ _ _ _ _ => (ts_one (t_not (t_tru (sh_of (d_cal G_in_range hr (by rfl) (a_cons (dv 3) (a_cons d_int (a_cons (d_op op_subD (sh_of (d_ix (sv 0) (sh_of d_int))) (sh_of d_int)) a_nil))))))))) (fun _ _ _ _ _ => (dv 3)))))) (tw_or1 (t_cmp (oNe hr) (sh_of (dLenSet T rfl (by rfl) (by rfl) (sv 2))) (sh_of (dLen T (by rfl) (as_cons (sv 2) as_nil))) (nomark _)))))
      (ss_one (s_ret d_bl))
      ss_nil)
      (ss_cons (s_if (PW.pt (tw_or (t_cmp (oNi hr) (sh_of (d_ix (sv 2) (sh_of d_int))) (sv 1) (by rfl)) (tw_or (t_cmp (oNi hr) (sh_of (d_ix (sv 2) (sh_of (dNeg d_int)))) (sv 1) (by rfl)) (tw_or1 (t_tru (sh_of (d_fresh (f_lc rfl sc_is_path_of.nd (i_seqS (sh_of (d_sl (sv 2) (o_some d_int) (o_some (dNeg d_int))))) (blkOk_by (N := N_is_path_of) (sc := defScope s_is_path_of) (own := [("vertex", 3)]) (by decide +kernel)) (fun _ _ _ _ _ => pg_name (i := 3) sc_is_path_of.nd rfl (.inl rfl)) (fun _ _ _ _ _ => (ts_one (t_cmp (oIn hr) (sv 3) (sv 1) (by rfl)))) (fun _ _ _ _ _ => (dv 3))))))))))
      (ss_one (s_ret d_bl))
      ss_nil)
      (ss_one (s_ret (d_notT (sh_of (d_fresh (f_lc2 rfl sc_is_path_of.nd (i_zip (by rfl) T.zip (a_cons (dv 2) (a_cons (d_sl (sv 2) (o_some d_int) o_none) a_nil))) (blkOk_by (N := N_is_path_of) (sc := defScope s_is_path_of) (own := [("one", 4), ("other", 5)]) (by decide +kernel)) (fun _ _ _ _ _ => pg_name (i := 4) sc_is_path_of.nd rfl (.inl rfl)) (fun _ _ _ _ _ => pg_name (i := 5) sc_is_path_of.nd rfl (.inl rfl)) (fun _ _ _ _ _ => (ts_one (t_cmp (oNi hr) (sh_of (d_tup (a_cons (dMin2 T rfl (by rfl) (as_cons (sv 4) (as_cons (sv 5) as_nil))) (a_cons (dMax2 T rfl (by rfl) (as_cons (sv 4) (as_cons (sv 5) as_nil))) a_nil)))) (sh_of (d_ix (sv 0) (sh_of d_int))) (by rfl)))) (fun _ _ _ _ _ => d_int))))))))))
abbrev s_is_system : Stmt := tp 25
abbrev N_is_system : List Str := ["graph", "marks", "value", "path", "steps", "one", "other", "step"]
theorem sc_is_system : FnScope N_is_system ["graph", "marks", "value"] (defScope s_is_system) := ⟨rfl, rfl, rfl, by decide +kernel, rfl, by decide +kernel, by decide +kernel⟩
def L_is_system_1 : DL.Env → RS := (sExt 4 (eList (eLcB 5 6 (iZipD (eCons (eVar 3) (eCons (eSl (eVarS 3) (oSome (eC (.int 1))) oNone) eNil))) bYes (eTup (eCons (eCall (call2 min2D) (eCons (eVarS 5) (eCons (eVarS 6) eNil))) (eCons (eCall (call2 max2D) (eCons (eVarS 5) (eCons (eVarS 6) eNil))) eNil))))))
def S_is_system : DL.Env → RS := (sSeq (sExpr (eCall F_check_marks (eCons (eVar 0) (eCons (eVar 1) eNil))))
(sSeq (sForget 3 (sIf (bOr (bNot (tru (eIsi isT (eVarS 2)))) (tru (eList (eLcA 3 (iSeq (eVarS 2)) (bNot (tru (eCallN F_is_path_of (eCons (eVar 0) (eCons (eVar 1) (eCons (eVar 3) eNil)))))) (eVar 3)))))
(sRet (eC (.bool false)))
sNil))
(sSeq (sSetF 4 eNil)
(sSeq (sFor (iSeq (eVar 2)) (gN 3)
L_is_system_1)
(sRet (eNotT (eList (eLcA 7 (iSeq (eVarS 4)) (tst (e2 gtD (eCntL (eVarS 4) (eVar 7)) (eCntT (e2 ixD (eVarS 0) (eC (.int 1))) (eVar 7)))) (eVar 7)))))))))
def F_is_system : List PyData → Res PyData := runF 3 8 S_is_system
theorem u_is_system (a0 a1 a2 : PyData) : F_is_system [a0, a1, a2] = runR (S_is_system [.val a0, .val a1, .val a2, .no, .no, .no, .no, .no]) := (ev_run rfl).trans rfl
theorem ok_is_system {f : Addr} {fd : FuncData} (F : Fun K "is_system" "is_system" s_is_system f fd) (T : Blt mg) (G_check_marks : Cal P w K mg base 5 "check_marks" ["graph", "marks"] F_check_marks) (G_is_path_of : Cal P w K mg base 5 "is_path_of" ["graph", "marks", "value"] F_is_path_of) : FnOk P w K mg base (L2.CX P w) 6 f fd ["graph", "marks", "value"] (spD K mg F_is_system) :=
  def_ok F sc_is_system fun cdv A outer s H E hr => by
    have tk : Takes (cxOf (L2.CX P w) P w K mg base N_is_system "is_system" (defScope s_is_system) f cdv A outer s H E) (fun cls d _ H => E cls d H) := takes_of rfl rfl rfl rfl
    have po := passes_of (X := cxOf (L2.CX P w) P w K mg base N_is_system "is_system" (defScope s_is_system) f cdv A outer s H E) rfl
    have hx : Passes (L2.CX P w) (cxOf (L2.CX P w) P w K mg base N_is_system "is_system" (defScope s_is_system) f cdv A outer s H E) E := passes_call tk (fun _ _ _ _ h => h)
    exact (ss_cons (s_expr (d_calX G_check_marks hr hx (by rfl) (a_cons (dv 0) (a_cons (dv 1) a_nil))))
      (ss_cons (s_forget 3 (s_if (PW.pt (tw_or (t_not (t_tru (sh_of (dIsT T (by rfl) (by rfl) (sv 2))))) (tw_or1 (t_tru (sh_of (d_fresh (f_lc rfl sc_is_system.nd (i_seqS (sv 2)) (blkOk_by (N := N_is_system) (sc := defScope s_is_system) (own := [("path", 3)]) (by decide +kernel)) (fun _ _ _ _ _ => pg_name (i := 3) sc_is_system.nd rfl (.inl rfl)) (fun _ _ _ _ _ => (ts_one (t_not (t_tru (sh_of (d_cal G_is_path_of hr (by rfl) (a_cons (dv 0) (a_cons (dv 1) (a_cons (dv 3) a_nil))))))))) (fun _ _ _ _ _ => (dv 3)))))))))
      (ss_one (s_ret d_bl))
      ss_nil))
      (ss_cons (s_setF (i := 4) sc_is_system.nd rfl (.inr rfl) f_nil)
      (ss_cons (s_for po rfl (i_seq (dv 2)) (g_name (i := 3) sc_is_system.nd rfl (.inl rfl))
      (ss_one (s_ext (i := 4) rfl (.inr (.inl rfl)) (d_fresh (f_lc2 rfl sc_is_system.nd (i_zip (by rfl) T.zip (a_cons (dv 3) (a_cons (d_sl (sv 3) (o_some d_int) o_none) a_nil))) (blkOk_by (N := N_is_system) (sc := defScope s_is_system) (own := [("one", 5), ("other", 6)]) (by decide +kernel)) (fun _ _ _ _ _ => pg_name (i := 5) sc_is_system.nd rfl (.inl rfl)) (fun _ _ _ _ _ => pg_name (i := 6) sc_is_system.nd rfl (.inl rfl)) (fun _ _ _ _ _ => ts_nil) (fun _ _ _ _ _ => (d_tup (a_cons (dMin2 T rfl (by rfl) (as_cons (sv 5) (as_cons (sv 6) as_nil))) (a_cons (dMax2 T rfl (by rfl) (as_cons (sv 5) (as_cons (sv 6) as_nil))) a_nil)))))))))
      (ss_one (s_ret (d_notT (sh_of (d_fresh (f_lc rfl sc_is_system.nd (i_seqS (sv 4)) (blkOk_by (N := N_is_system) (sc := defScope s_is_system) (own := [("step", 7)]) (by decide +kernel)) (fun _ _ _ _ _ => pg_name (i := 7) sc_is_system.nd rfl (.inl rfl)) (fun _ _ _ _ _ => (ts_one (t_cmp (oGt hr) (sh_of (d_cntL hr (sv 4) (dv 7))) (sh_of (d_cntT hr (sh_of (d_ix (sv 0) (sh_of d_int))) (dv 7))) (nomark _)))) (fun _ _ _ _ _ => (dv 7))))))))))))
abbrev s_Planner_rest : Stmt := (clsBody (tp 27)).getD 6 (.Pass ⟨0, 0, 0, 0⟩)
abbrev N_Planner_rest : List Str := ["self", "edges", "path", "one", "other"]
theorem sc_Planner_rest : FnScope N_Planner_rest ["self"] (defScope s_Planner_rest) := ⟨rfl, rfl, rfl, by decide +kernel, rfl, by decide +kernel, by decide +kernel⟩
def L_Planner_rest_1 : DL.Env → RS := (sRem 1 (eTup (eCons (eCall (call2 min2D) (eCons (eVarS 3) (eCons (eVarS 4) eNil))) (eCons (eCall (call2 max2D) (eCons (eVarS 3) (eCons (eVarS 4) eNil))) eNil))))
def L_Planner_rest_2 : DL.Env → RS := (sFor (iZipD (eCons (eVar 2) (eCons (eSl (eVarS 2) (oSome (eC (.int 1))) oNone) eNil))) (gN2 3 4)
L_Planner_rest_1)
def S_Planner_rest : DL.Env → RS := (sSeq (sSetF 1 (eFL (eCons (e2 ixD (eFld "graph" (eVar 0)) (eC (.int 1))) eNil)))
(sSeq (sFor (iSeq (eFld "chosen" (eVar 0))) (gN 2)
L_Planner_rest_2)
(sRet (eTup (eCons (e2 ixD (eFld "graph" (eVar 0)) (eC (.int 0))) (eCons (eCall (call1 tupD) (eCons (eVarS 1) eNil)) eNil))))))
def F_Planner_rest : List PyData → Res PyData := runF 1 5 S_Planner_rest
theorem u_Planner_rest (a0 : PyData) : F_Planner_rest [a0] = runR (S_Planner_rest [.val a0, .no, .no, .no, .no]) := (ev_run rfl).trans rfl
theorem ok_Planner_rest {f : Addr} {fd : FuncData} (F : Fun K "rest" "Planner.rest" s_Planner_rest f fd) (T : Blt mg) (PT : PlT K) : FnOk P w K mg base (L2.CX P w) 1 f fd ["self"] (spD K mg F_Planner_rest) :=
  def_ok F sc_Planner_rest fun cdv A outer s H E hr => by
    have tk : Takes (cxOf (L2.CX P w) P w K mg base N_Planner_rest "Planner.rest" (defScope s_Planner_rest) f cdv A outer s H E) (fun cls d _ H => E cls d H) := takes_of rfl rfl rfl rfl
    have po := passes_of (X := cxOf (L2.CX P w) P w K mg base N_Planner_rest "Planner.rest" (defScope s_Planner_rest) f cdv A outer s H E) rfl
    have hx : Passes (L2.CX P w) (cxOf (L2.CX P w) P w K mg base N_Planner_rest "Planner.rest" (defScope s_Planner_rest) f cdv A outer s H E) E := passes_call tk (fun _ _ _ _ h => h)
    exact (ss_cons (s_setF (i := 1) sc_Planner_rest.nd rfl (.inl rfl) (fList T (by rfl) (as_cons (sh_of (d_ix (sh_of (d_fld PT.cl PT.n1 (dv 0))) (sh_of d_int))) as_nil)))
      (ss_cons (s_for po rfl (i_seq (d_fld PT.cl PT.n3 (dv 0))) (g_name (i := 2) sc_Planner_rest.nd rfl (.inl rfl))
      (ss_one (s_for po rfl (i_zip (by rfl) T.zip (a_cons (dv 2) (a_cons (d_sl (sv 2) (o_some d_int) o_none) a_nil))) (g_pair rfl (pg_name (i := 3) sc_Planner_rest.nd rfl (.inl rfl)) (pg_name (i := 4) sc_Planner_rest.nd rfl (.inl rfl)))
      (ss_one (s_rem hr (i := 1) rfl (.inl rfl) (d_tup (a_cons (dMin2 T rfl (by rfl) (as_cons (sv 3) (as_cons (sv 4) as_nil))) (a_cons (dMax2 T rfl (by rfl) (as_cons (sv 3) (as_cons (sv 4) as_nil))) a_nil))))))))
      (ss_one (s_ret (d_tup (a_cons (d_ix (sh_of (d_fld PT.cl PT.n1 (dv 0))) (sh_of d_int)) (a_cons (dTuple T (by rfl) (as_cons (sv 1) as_nil)) a_nil)))))))
abbrev s_Planner_take : Stmt := (clsBody (tp 27)).getD 7 (.Pass ⟨0, 0, 0, 0⟩)
abbrev N_Planner_take : List Str := ["self", "path"]
theorem sc_Planner_take : FnScope N_Planner_take ["self", "path"] (defScope s_Planner_take) := ⟨rfl, rfl, rfl, by decide +kernel, rfl, by decide +kernel, by decide +kernel⟩
def S_Planner_take : DL.Env → RS := (sSeq (sIf (bOr (bNot (tru (eCallN F_is_path_of (eCons (eFld "graph" (eVar 0)) (eCons (eFld "marks" (eVar 0)) (eCons (eVar 1) eNil)))))) (bNot (tru (eCall F_is_system (eCons (eFld "graph" (eVar 0)) (eCons (eFld "marks" (eVar 0)) (eCons (e2 addD (eFld "chosen" (eVar 0)) (eTup (eCons (eVar 1) eNil))) eNil)))))))
(sRaise "InvalidPath")
sNil)
(sSeq sBad
(sRet (eCall (call1 lenD) (eCons (eCallN F_system_of (eCons (eMethN "rest" F_Planner_rest (eVar 0) eNil) (eCons (eFld "marks" (eVar 0)) eNil))) eNil)))))
def F_Planner_take : List PyData → Res PyData := runF 2 2 S_Planner_take
theorem u_Planner_take (a0 a1 : PyData) : F_Planner_take [a0, a1] = runR (S_Planner_take [.val a0, .val a1]) := (ev_run rfl).trans rfl
theorem ok_Planner_take {f : Addr} {fd : FuncData} (F : Fun K "take" "Planner.take" s_Planner_take f fd) (T : Blt mg) (X_InvalidPath : ExcT K mg "InvalidPath") (PT : PlT K) (G_system_of : Cal P w K mg base 14 "system_of" ["graph", "marks"] F_system_of) (G_is_path_of : Cal P w K mg base 14 "is_path_of" ["graph", "marks", "value"] F_is_path_of) (G_is_system : Cal P w K mg base 14 "is_system" ["graph", "marks", "value"] F_is_system) (G_Planner_rest : CalM P w K mg base 14 "rest" ["self"] F_Planner_rest) : FnOk P w K mg base (L2.CX P w) 15 f fd ["self", "path"] (spD K mg F_Planner_take) :=
  def_ok F sc_Planner_take fun cdv A outer s H E hr => by
    have tk : Takes (cxOf (L2.CX P w) P w K mg base N_Planner_take "Planner.take" (defScope s_Planner_take) f cdv A outer s H E) (fun cls d _ H => E cls d H) := takes_of rfl rfl rfl rfl
    have po := passes_of (X := cxOf (L2.CX P w) P w K mg base N_Planner_take "Planner.take" (defScope s_Planner_take) f cdv A outer s H E) rfl
    have hx : Passes (L2.CX P w) (cxOf (L2.CX P w) P w K mg base N_Planner_take "Planner.take" (defScope s_Planner_take) f cdv A outer s H E) E := passes_call tk (fun _ _ _ _ h => h)
    exact (ss_cons (s_if (PW.pt (tw_or (t_not (t_tru (sh_of (d_cal G_is_path_of hr (by rfl) (a_cons (d_fld PT.cl PT.n1 (dv 0)) (a_cons (d_fld PT.cl PT.n2 (dv 0)) (a_cons (dv 1) a_nil))))))) (tw_or1 (t_not (t_tru (sh_of (d_calX G_is_system hr hx (by rfl) (a_cons (d_fld PT.cl PT.n1 (dv 0)) (a_cons (d_fld PT.cl PT.n2 (dv 0)) (a_cons (d_op op_addD (sh_of (d_fld PT.cl PT.n3 (dv 0))) (sh_of (d_tup (a_cons (dv 1) a_nil)))) a_nil))))))))))
      (ss_one (s_raiseT X_InvalidPath rfl tk (by rfl)))
      ss_nil)
      (ss_cons s_bad
      (ss_one (s_ret (dLen T (by rfl) (as_cons (sh_of (d_cal G_system_of hr (by rfl) (a_cons (d_methN0 G_Planner_rest PT.cl hr (dv 0)) (a_cons (d_fld PT.cl PT.n2 (dv 0)) a_nil)))) as_nil))))))
def O_Planner_take : OSt := (oSeq (oIf (otR [0] (bOr (bNot (tru (eCallN F_is_path_of (eCons (eFld "graph" (eVar 0)) (eCons (eFld "marks" (eVar 0)) (eCons (eVar 1) eNil)))))) (bNot (tru (eCall F_is_system (eCons (eFld "graph" (eVar 0)) (eCons (eFld "marks" (eVar 0)) (eCons (e2 addD (eFld "chosen" (eVar 0)) (eTup (eCons (eVar 1) eNil))) eNil))))))))
(oPure (sRaise "InvalidPath"))
oNil)
(oSeq (oFld "chosen" 0 (oxR [0] (e2 addD (eFld "chosen" (eVar 0)) (eTup (eCons (eVar 1) eNil)))))
(oRet (oxR [0] (eCall (call1 lenD) (eCons (eCallN F_system_of (eCons (eMethN "rest" F_Planner_rest (eVar 0) eNil) (eCons (eFld "marks" (eVar 0)) eNil))) eNil))))))
def PM_Planner_take : OM := runM 2 2 O_Planner_take
theorem okW_Planner_take {f : Addr} {fd : FuncData} (F : Fun K "take" "Planner.take" s_Planner_take f fd) (T : Blt mg) (X_InvalidPath : ExcT K mg "InvalidPath") (PT : PlT K) (G_system_of : Cal P w K mg base 14 "system_of" ["graph", "marks"] F_system_of) (G_is_path_of : Cal P w K mg base 14 "is_path_of" ["graph", "marks", "value"] F_is_path_of) (G_is_system : Cal P w K mg base 14 "is_system" ["graph", "marks", "value"] F_is_system) (G_Planner_rest : CalM P w K mg base 14 "rest" ["self"] F_Planner_rest) : FnOk P w K mg base (L2.CX P w) 15 f fd ["self", "path"] (spM K mg PM_Planner_take) :=
  defM_ok F sc_Planner_take fun cdv A outer s H E hr => by
    have tk : Takes (cxOf (L2.CX P w) P w K mg base N_Planner_take "Planner.take" (defScope s_Planner_take) f cdv A outer s H E) (fun cls d _ H => E cls d H) := takes_of rfl rfl rfl rfl
    have po := passes_of (X := cxOf (L2.CX P w) P w K mg base N_Planner_take "Planner.take" (defScope s_Planner_take) f cdv A outer s H E) rfl
    have hx : Passes (L2.CX P w) (cxOf (L2.CX P w) P w K mg base N_Planner_take "Planner.take" (defScope s_Planner_take) f cdv A outer s H E) E := passes_call tk (fun _ _ _ _ h => h)
    exact (o_cons (o_if (ot_read [0] (PW.pt (tw_or (t_not (t_tru (sh_of (d_cal G_is_path_of hr (by rfl) (a_cons (d_fld PT.cl PT.n1 (dv 0)) (a_cons (d_fld PT.cl PT.n2 (dv 0)) (a_cons (dv 1) a_nil))))))) (tw_or1 (t_not (t_tru (sh_of (d_calX G_is_system hr hx (by rfl) (a_cons (d_fld PT.cl PT.n1 (dv 0)) (a_cons (d_fld PT.cl PT.n2 (dv 0)) (a_cons (d_op op_addD (sh_of (d_fld PT.cl PT.n3 (dv 0))) (sh_of (d_tup (a_cons (dv 1) a_nil)))) a_nil)))))))))))
      (o_one (o_pure (s_raiseT X_InvalidPath rfl tk (by rfl))))
      o_nil)
      (o_cons (o_fld (i := 0) PT.cl PT.n3 rfl (.inl rfl) (ox_read [0] (d_op op_addD (sh_of (d_fld PT.cl PT.n3 (dv 0))) (sh_of (d_tup (a_cons (dv 1) a_nil))))))
      (o_one (o_ret (ox_read [0] (dLen T (by rfl) (as_cons (sh_of (d_cal G_system_of hr (by rfl) (a_cons (d_methN0 G_Planner_rest PT.cl hr (dv 0)) (a_cons (d_fld PT.cl PT.n2 (dv 0)) a_nil)))) as_nil)))))))
abbrev s_Planner_state : Stmt := (clsBody (tp 27)).getD 4 (.Pass ⟨0, 0, 0, 0⟩)
abbrev N_Planner_state : List Str := ["self"]
theorem sc_Planner_state : FnScope N_Planner_state ["self"] (defScope s_Planner_state) := ⟨rfl, rfl, rfl, by decide +kernel, rfl, by decide +kernel, by decide +kernel⟩
def S_Planner_state : DL.Env → RS := (sRet (eTup (eCons (eFld "graph" (eVar 0)) (eCons (eFld "marks" (eVar 0)) (eCons (eCall (call1 tupD) (eCons (eCall (call1 sortedD) (eCons (eFld "chosen" (eVar 0)) eNil)) eNil)) eNil)))))
def F_Planner_state : List PyData → Res PyData := runF 1 1 S_Planner_state
theorem u_Planner_state (a0 : PyData) : F_Planner_state [a0] = runR (S_Planner_state [.val a0]) := (ev_run rfl).trans rfl
theorem ok_Planner_state {f : Addr} {fd : FuncData} (F : Fun K "state" "Planner.state" s_Planner_state f fd) (T : Blt mg) (PT : PlT K) : FnOk P w K mg base (L2.CX P w) 1 f fd ["self"] (spD K mg F_Planner_state) :=
  def_ok F sc_Planner_state fun cdv A outer s H E hr => by
    have tk : Takes (cxOf (L2.CX P w) P w K mg base N_Planner_state "Planner.state" (defScope s_Planner_state) f cdv A outer s H E) (fun cls d _ H => E cls d H) := takes_of rfl rfl rfl rfl
    have po := passes_of (X := cxOf (L2.CX P w) P w K mg base N_Planner_state "Planner.state" (defScope s_Planner_state) f cdv A outer s H E) rfl
    have hx : Passes (L2.CX P w) (cxOf (L2.CX P w) P w K mg base N_Planner_state "Planner.state" (defScope s_Planner_state) f cdv A outer s H E) E := passes_call tk (fun _ _ _ _ h => h)
    exact (ss_one (s_ret (d_tup (a_cons (d_fld PT.cl PT.n1 (dv 0)) (a_cons (d_fld PT.cl PT.n2 (dv 0)) (a_cons (dTuple T (by rfl) (as_cons (sh_of (dSorted T hr (by rfl) (as_cons (sh_of (d_fld PT.cl PT.n3 (dv 0))) as_nil))) as_nil)) a_nil))))))
abbrev s_Planner___len__ : Stmt := (clsBody (tp 27)).getD 1 (.Pass ⟨0, 0, 0, 0⟩)
abbrev N_Planner___len__ : List Str := ["self"]
theorem sc_Planner___len__ : FnScope N_Planner___len__ ["self"] (defScope s_Planner___len__) := ⟨rfl, rfl, rfl, by decide +kernel, rfl, by decide +kernel, by decide +kernel⟩
def S_Planner___len__ : DL.Env → RS := (sRet (eCall (call1 lenD) (eCons (eFld "chosen" (eVar 0)) eNil)))
def F_Planner___len__ : List PyData → Res PyData := runF 1 1 S_Planner___len__
theorem u_Planner___len__ (a0 : PyData) : F_Planner___len__ [a0] = runR (S_Planner___len__ [.val a0]) := (ev_run rfl).trans rfl
theorem ok_Planner___len__ {f : Addr} {fd : FuncData} (F : Fun K "__len__" "Planner.__len__" s_Planner___len__ f fd) (T : Blt mg) (PT : PlT K) : FnOk P w K mg base (L2.CX P w) 1 f fd ["self"] (spD K mg F_Planner___len__) :=
  def_ok F sc_Planner___len__ fun cdv A outer s H E hr => by
    have tk : Takes (cxOf (L2.CX P w) P w K mg base N_Planner___len__ "Planner.__len__" (defScope s_Planner___len__) f cdv A outer s H E) (fun cls d _ H => E cls d H) := takes_of rfl rfl rfl rfl
    have po := passes_of (X := cxOf (L2.CX P w) P w K mg base N_Planner___len__ "Planner.__len__" (defScope s_Planner___len__) f cdv A outer s H E) rfl
    have hx : Passes (L2.CX P w) (cxOf (L2.CX P w) P w K mg base N_Planner___len__ "Planner.__len__" (defScope s_Planner___len__) f cdv A outer s H E) E := passes_call tk (fun _ _ _ _ h => h)
    exact (ss_one (s_ret (dLen T (by rfl) (as_cons (sh_of (d_fld PT.cl PT.n3 (dv 0))) as_nil))))
abbrev s_text_of : Stmt := tp 17
abbrev N_text_of : List Str := ["graph", "marks", "names", "mark", "one", "other"]
theorem sc_text_of : FnScope N_text_of ["graph", "marks"] (defScope s_text_of) := ⟨rfl, rfl, rfl, by decide +kernel, rfl, by decide +kernel, by decide +kernel⟩
def S_text_of : DL.Env → RS := (sSeq (sSet 2 (eM1 joinD (eC (.str "")) (eList (eLcA 3 (iSeq (eVarS 1)) bYes (eCall (call1 strofD) (eCons (eVarS 3) eNil))))))
(sRet (eM1 joinD (eC (.str " ")) (e2 addD (eLst (eCons (eJoined [(eFmt (e2 ixD (eVarS 0) (eC (.int 0)))), (eC (.str "/")), (eFmt (eVar 2))]) eNil)) (eList (eLcB 4 5 (iSeq (e2 ixD (eVarS 0) (eC (.int 1)))) bYes (eJoined [(eFmt (eVar 4)), (eC (.str "-")), (eFmt (eVar 5))])))))))
def F_text_of : List PyData → Res PyData := runF 2 6 S_text_of
theorem u_text_of (a0 a1 : PyData) : F_text_of [a0, a1] = runR (S_text_of [.val a0, .val a1, .no, .no, .no, .no]) := (ev_run rfl).trans rfl
theorem ok_text_of {f : Addr} {fd : FuncData} (F : Fun K "text_of" "text_of" s_text_of f fd) (T : Blt mg) : FnOk P w K mg base (L2.CX P w) 1 f fd ["graph", "marks"] (spD K mg F_text_of) :=
  def_ok F sc_text_of fun cdv A outer s H E hr => by
    have tk : Takes (cxOf (L2.CX P w) P w K mg base N_text_of "text_of" (defScope s_text_of) f cdv A outer s H E) (fun cls d _ H => E cls d H) := takes_of rfl rfl rfl rfl
    have po := passes_of (X := cxOf (L2.CX P w) P w K mg base N_text_of "text_of" (defScope s_text_of) f cdv A outer s H E) rfl
    have hx : Passes (L2.CX P w) (cxOf (L2.CX P w) P w K mg base N_text_of "text_of" (defScope s_text_of) f cdv A outer s H E) E := passes_call tk (fun _ _ _ _ h => h)
    exact (ss_cons (s_set (i := 2) sc_text_of.nd rfl (.inl rfl) (d_join (sh_of d_str) (sh_of (d_fresh (f_lc rfl sc_text_of.nd (i_seqS (sv 1)) (blkOk_by (N := N_text_of) (sc := defScope s_text_of) (own := [("mark", 3)]) (by decide +kernel)) (fun _ _ _ _ _ => pg_name (i := 3) sc_text_of.nd rfl (.inl rfl)) (fun _ _ _ _ _ => ts_nil) (fun _ _ _ _ _ => (dStr T (by rfl) (as_cons (sv 3) as_nil))))))))
      (ss_one (s_ret (d_join (sh_of d_str) (sh_of (d_op op_addD (sh_of (d_lst (a_cons (d_joined (.cons (d_fmt (d_ix (sv 0) (sh_of d_int))) (.cons d_str (.cons (d_fmt (dv 2)) .nil)))) a_nil))) (sh_of (d_fresh (f_lc2 rfl sc_text_of.nd (i_seqS (sh_of (d_ix (sv 0) (sh_of d_int)))) (blkOk_by (N := N_text_of) (sc := defScope s_text_of) (own := [("one", 4), ("other", 5)]) (by decide +kernel)) (fun _ _ _ _ _ => pg_name (i := 4) sc_text_of.nd rfl (.inl rfl)) (fun _ _ _ _ _ => pg_name (i := 5) sc_text_of.nd rfl (.inl rfl)) (fun _ _ _ _ _ => ts_nil) (fun _ _ _ _ _ => (d_joined (.cons (d_fmt (dv 4)) (.cons d_str (.cons (d_fmt (dv 5)) .nil))))))))))))))
abbrev s_Planner___str__ : Stmt := (clsBody (tp 27)).getD 2 (.Pass ⟨0, 0, 0, 0⟩)
abbrev N_Planner___str__ : List Str := ["self"]
theorem sc_Planner___str__ : FnScope N_Planner___str__ ["self"] (defScope s_Planner___str__) := ⟨rfl, rfl, rfl, by decide +kernel, rfl, by decide +kernel, by decide +kernel⟩
def S_Planner___str__ : DL.Env → RS := (sRet (eCall (call1 strS) (eCons (eCallN F_text_of (eCons (eMethN "rest" F_Planner_rest (eVar 0) eNil) (eCons (eFld "marks" (eVar 0)) eNil))) eNil)))
def F_Planner___str__ : List PyData → Res PyData := runF 1 1 S_Planner___str__
theorem u_Planner___str__ (a0 : PyData) : F_Planner___str__ [a0] = runR (S_Planner___str__ [.val a0]) := (ev_run rfl).trans rfl
theorem ok_Planner___str__ {f : Addr} {fd : FuncData} (F : Fun K "__str__" "Planner.__str__" s_Planner___str__ f fd) (T : Blt mg) (PT : PlT K) (G_text_of : Cal P w K mg base 1 "text_of" ["graph", "marks"] F_text_of) (G_Planner_rest : CalM P w K mg base 1 "rest" ["self"] F_Planner_rest) : FnOk P w K mg base (L2.CX P w) 2 f fd ["self"] (spD K mg F_Planner___str__) :=
  def_ok F sc_Planner___str__ fun cdv A outer s H E hr => by
    have tk : Takes (cxOf (L2.CX P w) P w K mg base N_Planner___str__ "Planner.__str__" (defScope s_Planner___str__) f cdv A outer s H E) (fun cls d _ H => E cls d H) := takes_of rfl rfl rfl rfl
    have po := passes_of (X := cxOf (L2.CX P w) P w K mg base N_Planner___str__ "Planner.__str__" (defScope s_Planner___str__) f cdv A outer s H E) rfl
    have hx : Passes (L2.CX P w) (cxOf (L2.CX P w) P w K mg base N_Planner___str__ "Planner.__str__" (defScope s_Planner___str__) f cdv A outer s H E) E := passes_call tk (fun _ _ _ _ h => h)
    exact (ss_one (s_ret (dStrS T (by rfl) (as_cons (sh_of (d_cal G_text_of hr (by rfl) (a_cons (d_methN0 G_Planner_rest PT.cl hr (dv 0)) (a_cons (d_fld PT.cl PT.n2 (dv 0)) a_nil)))) as_nil))))
abbrev s_Planner___eq__ : Stmt := (clsBody (tp 27)).getD 3 (.Pass ⟨0, 0, 0, 0⟩)
abbrev N_Planner___eq__ : List Str := ["self", "other"]
theorem sc_Planner___eq__ : FnScope N_Planner___eq__ ["self", "other"] (defScope s_Planner___eq__) := ⟨rfl, rfl, rfl, by decide +kernel, rfl, by decide +kernel, by decide +kernel⟩
def S_Planner___eq__ : DL.Env → RS := (sSeq (sIf (bNot (tru (eIsP (eVarS 1))))
(sRet (eC (.bool false)))
sNil)
(sRet (e2 eqD (eMethN "state" F_Planner_state (eVar 0) eNil) (eMethN "state" F_Planner_state (eVar 1) eNil))))
def F_Planner___eq__ : List PyData → Res PyData := runF 2 2 S_Planner___eq__
theorem u_Planner___eq__ (a0 a1 : PyData) : F_Planner___eq__ [a0, a1] = runR (S_Planner___eq__ [.val a0, .val a1]) := (ev_run rfl).trans rfl
theorem ok_Planner___eq__ {f : Addr} {fd : FuncData} (F : Fun K "__eq__" "Planner.__eq__" s_Planner___eq__ f fd) (T : Blt mg) (PT : PlT K) (PQ : PlQ K) (gmP : mg "Planner" = some (.ref (plC K))) (G_Planner_state : CalM P w K mg base 1 "state" ["self"] F_Planner_state) : FnOk P w K mg base (L2.CX P w) 2 f fd ["self", "other"] (spD K mg F_Planner___eq__) :=
  def_ok F sc_Planner___eq__ fun cdv A outer s H E hr => by
    have tk : Takes (cxOf (L2.CX P w) P w K mg base N_Planner___eq__ "Planner.__eq__" (defScope s_Planner___eq__) f cdv A outer s H E) (fun cls d _ H => E cls d H) := takes_of rfl rfl rfl rfl
    have po := passes_of (X := cxOf (L2.CX P w) P w K mg base N_Planner___eq__ "Planner.__eq__" (defScope s_Planner___eq__) f cdv A outer s H E) rfl
    have hx : Passes (L2.CX P w) (cxOf (L2.CX P w) P w K mg base N_Planner___eq__ "Planner.__eq__" (defScope s_Planner___eq__) f cdv A outer s H E) E := passes_call tk (fun _ _ _ _ h => h)
    exact (ss_cons (s_if (t_not (t_tru (sh_of (dIsP PQ gmP T (by rfl) (by rfl) (sv 1)))))
      (ss_one (s_ret d_bl))
      ss_nil)
      (ss_one (s_ret (d_cmp (oEq hr) (sh_of (d_methN0 G_Planner_state PT.cl hr (dv 0))) (sh_of (d_methN0 G_Planner_state PT.cl hr (dv 1))) (nomark _)))))
abbrev s_Planner_undo : Stmt := (clsBody (tp 27)).getD 8 (.Pass ⟨0, 0, 0, 0⟩)
abbrev N_Planner_undo : List Str := ["self", "last"]
theorem sc_Planner_undo : FnScope N_Planner_undo ["self"] (defScope s_Planner_undo) := ⟨rfl, rfl, rfl, by decide +kernel, rfl, by decide +kernel, by decide +kernel⟩
def S_Planner_undo : DL.Env → RS := (sSeq (sIf (tst (e2 leD (eCall (call1 lenD) (eCons (eFld "chosen" (eVar 0)) eNil)) (eFld "kept" (eVar 0))))
(sRaise "NothingToUndo")
sNil)
(sSeq (sSet 1 (e2 ixD (eFld "chosen" (eVar 0)) (eNeg (eC (.int 1)))))
(sSeq sBad
(sRet (eVar 1)))))
def F_Planner_undo : List PyData → Res PyData := runF 1 2 S_Planner_undo
theorem u_Planner_undo (a0 : PyData) : F_Planner_undo [a0] = runR (S_Planner_undo [.val a0, .no]) := (ev_run rfl).trans rfl
theorem ok_Planner_undo {f : Addr} {fd : FuncData} (F : Fun K "undo" "Planner.undo" s_Planner_undo f fd) (T : Blt mg) (X_NothingToUndo : ExcT K mg "NothingToUndo") (PT : PlT K) : FnOk P w K mg base (L2.CX P w) 1 f fd ["self"] (spD K mg F_Planner_undo) :=
  def_ok F sc_Planner_undo fun cdv A outer s H E hr => by
    have tk : Takes (cxOf (L2.CX P w) P w K mg base N_Planner_undo "Planner.undo" (defScope s_Planner_undo) f cdv A outer s H E) (fun cls d _ H => E cls d H) := takes_of rfl rfl rfl rfl
    have po := passes_of (X := cxOf (L2.CX P w) P w K mg base N_Planner_undo "Planner.undo" (defScope s_Planner_undo) f cdv A outer s H E) rfl
    have hx : Passes (L2.CX P w) (cxOf (L2.CX P w) P w K mg base N_Planner_undo "Planner.undo" (defScope s_Planner_undo) f cdv A outer s H E) E := passes_call tk (fun _ _ _ _ h => h)
    exact (ss_cons (s_if (t_cmp (oLe hr) (sh_of (dLen T (by rfl) (as_cons (sh_of (d_fld PT.cl PT.n3 (dv 0))) as_nil))) (sh_of (d_fld PT.cl PT.n4 (dv 0))) (nomark _))
      (ss_one (s_raiseT X_NothingToUndo rfl tk (by rfl)))
      ss_nil)
      (ss_cons (s_set (i := 1) sc_Planner_undo.nd rfl (.inl rfl) (d_ix (sh_of (d_fld PT.cl PT.n3 (dv 0))) (sh_of (dNeg d_int))))
      (ss_cons s_bad
      (ss_one (s_ret (dv 1))))))
def O_Planner_undo : OSt := (oSeq (oIf (otR [0] (tst (e2 leD (eCall (call1 lenD) (eCons (eFld "chosen" (eVar 0)) eNil)) (eFld "kept" (eVar 0)))))
(oPure (sRaise "NothingToUndo"))
oNil)
(oSeq (oSet 1 (oxR [0] (e2 ixD (eFld "chosen" (eVar 0)) (eNeg (eC (.int 1))))))
(oSeq (oFld "chosen" 0 (oxR [0] (eSl (eFld "chosen" (eVar 0)) oNone (oSome (eNeg (eC (.int 1)))))))
(oPure (sRet (eVar 1))))))
def PM_Planner_undo : OM := runM 1 2 O_Planner_undo
theorem okW_Planner_undo {f : Addr} {fd : FuncData} (F : Fun K "undo" "Planner.undo" s_Planner_undo f fd) (T : Blt mg) (X_NothingToUndo : ExcT K mg "NothingToUndo") (PT : PlT K) : FnOk P w K mg base (L2.CX P w) 1 f fd ["self"] (spM K mg PM_Planner_undo) :=
  defM_ok F sc_Planner_undo fun cdv A outer s H E hr => by
    have tk : Takes (cxOf (L2.CX P w) P w K mg base N_Planner_undo "Planner.undo" (defScope s_Planner_undo) f cdv A outer s H E) (fun cls d _ H => E cls d H) := takes_of rfl rfl rfl rfl
    have po := passes_of (X := cxOf (L2.CX P w) P w K mg base N_Planner_undo "Planner.undo" (defScope s_Planner_undo) f cdv A outer s H E) rfl
    have hx : Passes (L2.CX P w) (cxOf (L2.CX P w) P w K mg base N_Planner_undo "Planner.undo" (defScope s_Planner_undo) f cdv A outer s H E) E := passes_call tk (fun _ _ _ _ h => h)
    exact (o_cons (o_if (ot_read [0] (t_cmp (oLe hr) (sh_of (dLen T (by rfl) (as_cons (sh_of (d_fld PT.cl PT.n3 (dv 0))) as_nil))) (sh_of (d_fld PT.cl PT.n4 (dv 0))) (nomark _)))
      (o_one (o_pure (s_raiseT X_NothingToUndo rfl tk (by rfl))))
      o_nil)
      (o_cons (o_set (i := 1) sc_Planner_undo.nd rfl (.inl rfl) (ox_read [0] (d_ix (sh_of (d_fld PT.cl PT.n3 (dv 0))) (sh_of (dNeg d_int)))))
      (o_cons (o_fld (i := 0) PT.cl PT.n3 rfl (.inl rfl) (ox_read [0] (d_sl (sh_of (d_fld PT.cl PT.n3 (dv 0))) o_none (o_some (dNeg d_int)))))
      (o_one (o_pure (s_ret (dv 1)))))))
abbrev s__law_failed : Stmt := tp 34
abbrev N__law_failed : List Str := ["work", "mode", "odd", "e"]
theorem sc__law_failed : FnScope N__law_failed ["work", "mode", "odd"] (defScope s__law_failed) := ⟨rfl, rfl, rfl, by decide +kernel, rfl, by decide +kernel, by decide +kernel⟩
def T__law_failed (a dd : Addr) (x : Str) : DL.Env → RS := (sRet (eIsx 3 a dd x "ValueError"))
theorem hA__law_failed (a dd : Addr) (x : Str) : retR (T__law_failed a dd x (blank 3 4 (exD a dd x))) = retR (T__law_failed 0 0 x (blank 3 4 (exD 0 0 x))) := by
  simp [T__law_failed, blank, List.replicate, szOk_lt]
def S__law_failed : DL.Env → RS := (sSeq (sTryY 3 4 ["InvalidGraph", "InvalidMarks", "InvalidPath", "NothingToUndo"] (sSeq (sIf (tst (e2 eqD (eVarS 1) (eC (.int 0))))
(sExpr (eMeth "take" F_Planner_take (eVar 0) (eCons (eVar 2) eNil)))
sNil)
(sSeq (sIf (tst (e2 eqD (eVarS 1) (eC (.int 1))))
(sExpr (eMeth "undo" F_Planner_undo (eVar 0) eNil))
sNil)
(sSeq (sIf (tst (e2 eqD (eVarS 1) (eC (.int 2))))
(sExpr (eMeth "take" F_Planner_take (eVar 0) (eCons (eTup (eCons (eC (.int 0)) (eCons (eC (.int 9)) eNil))) eNil)))
sNil)
(sSeq (sIf (tst (e2 eqD (eVarS 1) (eC (.int 3))))
(sExpr (eMeth "take" F_Planner_take (eVar 0) (eCons (eTup eNil) eNil)))
sNil)
(sIf (tst (e2 eqD (eVarS 1) (eC (.int 4))))
(sExpr (eMeth "take" F_Planner_take (eVar 0) (eCons (eTup (eCons (eC (.int 0)) (eCons (eC (.int 0)) eNil))) eNil)))
sNil))))) T__law_failed)
(sRet (eC (.bool false))))
def F__law_failed : List PyData → Res PyData := runF 3 4 S__law_failed
theorem u__law_failed (a0 a1 a2 : PyData) : F__law_failed [a0, a1, a2] = runR (S__law_failed [.val a0, .val a1, .val a2, .no]) := (ev_run rfl).trans rfl
theorem ok__law_failed {f : Addr} {fd : FuncData} (F : Fun K "_law_failed" "_law_failed" s__law_failed f fd) (T : Blt mg) (PT : PlT K) (QX : XQ K mg ["InvalidGraph", "InvalidMarks", "InvalidPath", "NothingToUndo"] []) (G_Planner_take : CalM P w K mg base 15 "take" ["self", "path"] F_Planner_take) (G_Planner_undo : CalM P w K mg base 15 "undo" ["self"] F_Planner_undo) : FnOk P w K mg base (L2.CX P w) 16 f fd ["work", "mode", "odd"] (spD K mg F__law_failed) :=
  def_ok F sc__law_failed fun cdv A outer s H E hr => by
    have tk : Takes (cxOf (L2.CX P w) P w K mg base N__law_failed "_law_failed" (defScope s__law_failed) f cdv A outer s H E) (fun cls d _ H => E cls d H) := takes_of rfl rfl rfl rfl
    have po := passes_of (X := cxOf (L2.CX P w) P w K mg base N__law_failed "_law_failed" (defScope s__law_failed) f cdv A outer s H E) rfl
    have hx : Passes (L2.CX P w) (cxOf (L2.CX P w) P w K mg base N__law_failed "_law_failed" (defScope s__law_failed) f cdv A outer s H E) E := passes_call tk (fun _ _ _ _ h => h)
    exact (ss_cons (s_tryY (i := 3) (m := 4) (M := "MarkError") (L := ["InvalidGraph", "InvalidMarks", "InvalidPath", "NothingToUndo"]) rfl rfl sc__law_failed.nd rfl rfl rfl tk QX.gM (by rfl) QX.em (fun E pn xe tk po => by
      have hx := passes_call (E := E) tk (fun _ _ _ _ h => h)
      exact (ss_cons (s_if (t_cmp (oEq hr) (sv 1) (sh_of d_int) (nomark _))
      (ss_one (s_expr (d_meth G_Planner_take PT.cl hr hx (dv 0) (a_cons (dv 2) a_nil))))
      ss_nil)
      (ss_cons (s_if (t_cmp (oEq hr) (sv 1) (sh_of d_int) (nomark _))
      (ss_one (s_expr (d_meth0 G_Planner_undo PT.cl hr hx (dv 0))))
      ss_nil)
      (ss_cons (s_if (t_cmp (oEq hr) (sv 1) (sh_of d_int) (nomark _))
      (ss_one (s_expr (d_meth G_Planner_take PT.cl hr hx (dv 0) (a_cons (d_tup (a_cons d_int (a_cons d_int a_nil))) a_nil))))
      ss_nil)
      (ss_cons (s_if (t_cmp (oEq hr) (sv 1) (sh_of d_int) (nomark _))
      (ss_one (s_expr (d_meth G_Planner_take PT.cl hr hx (dv 0) (a_cons (d_tup a_nil) a_nil))))
      ss_nil)
      (ss_one (s_if (t_cmp (oEq hr) (sv 1) (sh_of d_int) (nomark _))
      (ss_one (s_expr (d_meth G_Planner_take PT.cl hr hx (dv 0) (a_cons (d_tup (a_cons d_int (a_cons d_int a_nil))) a_nil))))
      ss_nil))))))) (fun a oe x dd pn hxL hz hf => (ss_one (s_ret (d_isV QX hxL hz hf rfl (.inl rfl) T (by rfl) (by rfl))))) hA__law_failed)
      (ss_one (s_ret d_bl)))
abbrev s_law : Stmt := tp 35
abbrev N_law : List Str := ["script", "draws", "graph", "marks", "work", "path", "copied", "before", "time", "odd"]
theorem sc_law : FnScope N_law ["script"] (defScope s_law) := ⟨rfl, rfl, rfl, by decide +kernel, rfl, by decide +kernel, by decide +kernel⟩
def L_law_1 : DL.Env → RS := (sSeq (sSet 9 (e2 ixD (eLst (eCons (eC .none) (eCons (eC (.str "x")) (eCons (eLst (eCons (eC (.int 7)) eNil)) (eCons (eNeg (eC (.int 5))) (eCons (eC (.bool true)) eNil)))))) (e2 modD (e2 ixD (eVarS 1) (e2 addD (eC (.int 50)) (e2 modD (eVarS 8) (eC (.int 8))))) (eC (.int 5)))))
(sSeq (sIf (bNot (tru (eCallN F__law_failed (eCons (eVar 4) (eCons (e2 modD (e2 addD (e2 ixD (eVarS 1) (e2 addD (eC (.int 41)) (e2 modD (eVarS 8) (eC (.int 8))))) (eVarS 8)) (eC (.int 5))) (eCons (eVar 9) eNil))))))
(sRet (eC (.bool false)))
sNil)
(sSeq (sIf (tst (e2 neD (eTup (eCons (eMethN "state" F_Planner_state (eVar 4) eNil) (eCons (eMethN "rest" F_Planner_rest (eVar 4) eNil) (eCons (eCall (call1 (ownL F_Planner___len__)) (eCons (eVarS 4) eNil)) (eCons (eCall (call1 (ownS F_Planner___str__)) (eCons (eVarS 4) eNil)) eNil))))) (eVarS 7)))
(sRet (eC (.bool false)))
sNil)
(sIf (tst (e2 (ownN F_Planner___eq__) (eVarS 4) (eVarS 6)))
(sRet (eC (.bool false)))
sNil))))
def OL_law_1 : OSt := (oExpr (oxMeth "take" 4 PM_Planner_take (eCons (eVar 5) eNil)))
def O_law : OSt := (oSeq (oPure (sSet 1 (eCallN F__law_row (eCons (eVar 0) (eCons (eC (.int 4)) eNil)))))
(oSeq (oPure (sSet 2 (eCallN F__law_graph (eCons (eVar 0) (eCons (eC (.int 2)) (eCons (eC (.int 8)) eNil))))))
(oSeq (oPure (sSet 3 (eCallN F__law_marks (eCons (eVar 0) (eCons (eC (.int 3)) (eCons (eVar 2) eNil))))))
(oSeq (oSet 4 (oxNew F_Planner___init__ (eCons (eVar 2) (eCons (eVar 3) eNil))))
(oSeq (oFor (iSeq (eSl (eCallN F_system (eCons (eVar 2) (eCons (eVar 3) eNil))) oNone (oSome (e2 modD (e2 ixD (eVarS 1) (eC (.int 0))) (eC (.int 4)))))) (gN 5)
OL_law_1)
(oFrz [4] (sSeq (sSet 6 (eVar 4))
(sSeq (sSet 4 (eMethN "duplicate" F_Planner_duplicate (eVar 4) eNil))
(sSeq (sSet 7 (eTup (eCons (eMethN "state" F_Planner_state (eVar 4) eNil) (eCons (eMethN "rest" F_Planner_rest (eVar 4) eNil) (eCons (eCall (call1 (ownL F_Planner___len__)) (eCons (eVarS 4) eNil)) (eCons (eCall (call1 (ownS F_Planner___str__)) (eCons (eVarS 4) eNil)) eNil))))))
(sSeq (sFor (iRng1D (eCons (e2 addD (eC (.int 3)) (e2 modD (e2 ixD (eVarS 1) (eC (.int 40))) (eC (.int 6)))) eNil)) (gN 8)
L_law_1)
(sRet (eC (.bool true)))))))))))))
noncomputable def F_law : List PyData → Res PyData := runL 1 10 O_law
theorem ok_law {f : Addr} {fd : FuncData} (F : Fun K "law" "law" s_law f fd) (T : Blt mg) (PT : PlT K) (PQ : PlQ K) (G__law_row : Cal P w K mg base 16 "_law_row" ["script", "at"] F__law_row) (G__law_graph : Cal P w K mg base 16 "_law_graph" ["script", "at", "most"] F__law_graph) (G__law_marks : Cal P w K mg base 16 "_law_marks" ["script", "at", "graph"] F__law_marks) (G_Planner___init__ : CalI P w K mg base 15 ["self", "graph", "marks"] F_Planner___init__) (G_Planner_duplicate : CalM P w K mg base 16 "duplicate" ["self"] F_Planner_duplicate) (G_system : Cal P w K mg base 16 "system" ["graph", "marks"] F_system) (W_Planner_take : CalW P w K mg base 16 "take" ["self", "path"] PM_Planner_take) (G_Planner_state : CalM P w K mg base 16 "state" ["self"] F_Planner_state) (G_Planner_rest : CalM P w K mg base 16 "rest" ["self"] F_Planner_rest) (G_Planner___len__ : CalM P w K mg base 15 "__len__" ["self"] F_Planner___len__) (G_Planner___str__ : CalM P w K mg base 14 "__str__" ["self"] F_Planner___str__) (G_Planner___eq__ : CalM P w K mg base 15 "__eq__" ["self", "other"] F_Planner___eq__) (G__law_failed : Cal P w K mg base 16 "_law_failed" ["work", "mode", "odd"] F__law_failed) : FnOk P w K mg base (L2.CX P w) 17 f fd ["script"] (spD K mg F_law) :=
  defL_ok F sc_law fun cdv A outer s H E hr => by
    have tk : Takes (cxOf (L2.CX P w) P w K mg base N_law "law" (defScope s_law) f cdv A outer s H E) (fun cls d _ H => E cls d H) := takes_of rfl rfl rfl rfl
    have po := passes_of (X := cxOf (L2.CX P w) P w K mg base N_law "law" (defScope s_law) f cdv A outer s H E) rfl
    have hx : Passes (L2.CX P w) (cxOf (L2.CX P w) P w K mg base N_law "law" (defScope s_law) f cdv A outer s H E) E := passes_call tk (fun _ _ _ _ h => h)
    exact (o_cons (o_pure (s_set (i := 1) sc_law.nd rfl (.inl rfl) (d_cal G__law_row hr (by rfl) (a_cons (dv 0) (a_cons d_int a_nil)))))
      (o_cons (o_pure (s_set (i := 2) sc_law.nd rfl (.inl rfl) (d_cal G__law_graph hr (by rfl) (a_cons (dv 0) (a_cons d_int (a_cons d_int a_nil))))))
      (o_cons (o_pure (s_set (i := 3) sc_law.nd rfl (.inl rfl) (d_cal G__law_marks hr (by rfl) (a_cons (dv 0) (a_cons d_int (a_cons (dv 2) a_nil))))))
      (o_cons (o_set (i := 4) sc_law.nd rfl (.inl rfl) (ox_new G_Planner___init__ hr (by rfl) (a_cons (dv 2) (a_cons (dv 3) a_nil))))
      (o_cons (o_for po rfl (i_seq (d_sl (sh_of (d_cal G_system hr (by rfl) (a_cons (dv 2) (a_cons (dv 3) a_nil)))) o_none (o_some (d_op op_modD (sh_of (d_ix (sv 1) (sh_of d_int))) (sh_of d_int))))) (g_name (i := 5) sc_law.nd rfl (.inl rfl))
      (o_one (o_expr (ox_meth (i := 4) W_Planner_take PT.cl hr hx (dv 4) (a_cons (dv 5) a_nil)))))
      (o_frz [4] (ss_cons (s_set (i := 6) sc_law.nd rfl (.inl rfl) (dv 4))
      (ss_cons (s_set (i := 4) sc_law.nd rfl (.inl rfl) (d_methN0 G_Planner_duplicate PT.cl hr (dv 4)))
      (ss_cons (s_set (i := 7) sc_law.nd rfl (.inl rfl) (d_tup (a_cons (d_methN0 G_Planner_state PT.cl hr (dv 4)) (a_cons (d_methN0 G_Planner_rest PT.cl hr (dv 4)) (a_cons (dLenO G_Planner___len__ hr T (by rfl) (as_cons (sv 4) as_nil)) (a_cons (dStrO G_Planner___str__ hr T (by rfl) (as_cons (sv 4) as_nil)) a_nil))))))
      (ss_cons (s_for po rfl (i_rng1 (by rfl) T.range (a_cons (d_op op_addD (sh_of d_int) (sh_of (d_op op_modD (sh_of (d_ix (sv 1) (sh_of d_int))) (sh_of d_int)))) a_nil)) (g_name (i := 8) sc_law.nd rfl (.inl rfl))
      (ss_cons (s_set (i := 9) sc_law.nd rfl (.inl rfl) (d_ix (sh_of (d_lst (a_cons d_non (a_cons d_str (a_cons (d_lst (a_cons d_int a_nil)) (a_cons (dNeg d_int) (a_cons d_bl a_nil))))))) (sh_of (d_op op_modD (sh_of (d_ix (sv 1) (sh_of (d_op op_addD (sh_of d_int) (sh_of (d_op op_modD (sv 8) (sh_of d_int))))))) (sh_of d_int)))))
      (ss_cons (s_if (t_not (t_tru (sh_of (d_cal G__law_failed hr (by rfl) (a_cons (dv 4) (a_cons (d_op op_modD (sh_of (d_op op_addD (sh_of (d_ix (sv 1) (sh_of (d_op op_addD (sh_of d_int) (sh_of (d_op op_modD (sv 8) (sh_of d_int))))))) (sv 8))) (sh_of d_int)) (a_cons (dv 9) a_nil)))))))
      (ss_one (s_ret d_bl))
      ss_nil)
      (ss_cons (s_if (t_cmp (oNe hr) (sh_of (d_tup (a_cons (d_methN0 G_Planner_state PT.cl hr (dv 4)) (a_cons (d_methN0 G_Planner_rest PT.cl hr (dv 4)) (a_cons (dLenO G_Planner___len__ hr T (by rfl) (as_cons (sv 4) as_nil)) (a_cons (dStrO G_Planner___str__ hr T (by rfl) (as_cons (sv 4) as_nil)) a_nil)))))) (sv 7) (nomark _))
      (ss_one (s_ret d_bl))
      ss_nil)
      (ss_one (s_if (t_cmp (o_neO PQ G_Planner___eq__ hr) (sv 4) (sv 6) (nomark _))
      (ss_one (s_ret d_bl))
      ss_nil))))))
      (ss_one (s_ret d_bl))))))))))))
end
/-- a valid graph; valid marks -/
structure VG (n : Int) (es : List Ed) : Prop where
  lo : 2 ≤ n
  hi : n ≤ 6
  len : es.length ≤ 9
  ed : ∀ e ∈ es, 0 ≤ e.1 ∧ e.1 < e.2 ∧ e.2 ≤ n - 1
  up : es.Pairwise fun x y => ltE y x = false
structure VM (n : Int) (ms : List Int) : Prop where
  two : 2 ≤ ms.length
  up : ms.Pairwise (· < ·)
  rg : ∀ m ∈ ms, 0 ≤ m ∧ m ≤ n - 1
theorem filter_none {α : Type} (p : α → Bool) (xs : List α) : (xs.filter p).isEmpty = xs.all fun x => !p x := by
  induction xs with
  | nil => rfl
  | cons x xs ih =>
    rw [List.filter_cons, List.all_cons]
    cases h : p x
    · simp [ih]
    · simp
theorem adj_of {α : Type} {R : α → α → Prop} : ∀ {xs : List α}, xs.Pairwise R → ∀ p ∈ xs.zip xs.tail, R p.1 p.2
  | [], _, p, hp => by simp at hp
  | [x], _, p, hp => by simp at hp
  | x :: y :: xs, h, p, hp => by
    rw [List.tail_cons, List.zip_cons_cons] at hp
    rw [List.pairwise_cons] at h
    rcases List.mem_cons.mp hp with z | z
    · subst z; exact h.1 y (by simp)
    · exact adj_of h.2 p z
theorem of_adj {α : Type} {R : α → α → Prop} (tr : ∀ a b c, R a b → R b c → R a c) : ∀ {xs : List α}, (∀ p ∈ xs.zip xs.tail, R p.1 p.2) → xs.Pairwise R
  | [], _ => .nil
  | [x], _ => List.pairwise_singleton _ _
  | x :: y :: xs, h => by
    rw [List.tail_cons, List.zip_cons_cons] at h
    have ih := of_adj tr (xs := y :: xs) fun p hp => h p (List.mem_cons_of_mem _ hp)
    refine List.pairwise_cons.mpr ⟨fun z hz => ?_, ih⟩
    have h0 : R x y := h (x, y) (by simp)
    rcases List.mem_cons.mp hz with e | hz
    · subst e; exact h0
    · exact tr x y z h0 ((List.pairwise_cons.mp ih).1 z hz)
theorem mem_tail_zip {α : Type} {xs : List α} {p : α × α} (h : p ∈ xs.zip xs.tail) : p.1 ∈ xs ∧ p.2 ∈ xs := by
  obtain ⟨h1, h2⟩ := List.of_mem_zip (a := p.1) (b := p.2) (l₁ := xs) (l₂ := xs.tail) h
  exact ⟨h1, List.mem_of_mem_tail h2⟩
theorem nodup_len {α : Type} [DecidableEq α] : ∀ {xs ys : List α}, xs.Nodup → (∀ x ∈ xs, x ∈ ys) → xs.length ≤ ys.length
  | [], _, _, _ => Nat.zero_le _
  | x :: xs, ys, h, s => by
    rw [List.nodup_cons] at h
    have hx := s x (by simp)
    have e := List.length_erase_of_mem hx
    have pos : 0 < ys.length := List.length_pos_of_mem hx
    have ih := nodup_len (xs := xs) (ys := ys.erase x) h.2 fun y hy => by
      have ne : y ≠ x := fun z => h.1 (z ▸ hy)
      exact (List.mem_erase_of_ne ne).mpr (s y (List.mem_cons_of_mem _ hy))
    rw [List.length_cons]
    omega
theorem f_in_range (a lo hi : Int) : F_in_range [.int a, .int lo, .int hi] = .ok (.bool (decide (lo ≤ a ∧ a ≤ hi))) := by
  rw [u_in_range, S_in_range]
  by_cases h1 : lo ≤ a <;> by_cases h2 : a ≤ hi <;> simp [isI, isB, h1, h2]
theorem f_in_range_x {d : PyData} (lo hi : Int) (h : isI d = false ∨ isB d = true) (hs : notScr d = .ok ()) : F_in_range [d, .int lo, .int hi] = .ok (.bool false) := by
  rw [u_in_range, S_in_range]
  rcases h with h | h
  · simp [h, hs]
  · cases d with
    | bool b => simp [isI, isB]
    | _ => cases h
/-- the edge's ends: 0 to below n, ascending -/
def edB (n : Int) (e : Ed) : Bool := decide (0 ≤ e.1 ∧ e.1 < e.2 ∧ e.2 ≤ n - 1)
theorem f_is_edge (n : Int) (e : Ed) : F_is_edge [.int n, dE e] = .ok (.bool (edB n e)) := by
  rw [u_is_edge, S_is_edge, dE]
  by_cases h : 0 ≤ e.1 ∧ e.1 ≤ n - 1
  · by_cases h2 : e.1 + 1 ≤ e.2 ∧ e.2 ≤ n - 1
    · have h3 : edB n e = true := by simp [edB]; omega
      simp [isT, f_in_range, h, h2, h3]
    · have h3 : edB n e = false := by simp [edB]; omega
      simp [isT, f_in_range, h, h2, h3]
  · have h3 : edB n e = false := by simp [edB]; omega
    simp [isT, f_in_range, h, h3]
def upB (es : List Ed) : Bool := (es.zip es.tail).all fun p => !ltE p.2 p.1
def graphB (n : Int) (es : List Ed) : Bool := decide (2 ≤ n ∧ n ≤ 6) && (decide (es.length ≤ 9) && ((es.all (edB n)) && upB es))
theorem f_is_graph (n : Int) (es : List Ed) : F_is_graph [dG n es] = .ok (.bool (graphB n es)) := by
  rw [u_is_graph, S_is_graph, dG, dEs]
  by_cases h1 : 2 ≤ n ∧ n ≤ 6
  · by_cases h2 : es.length ≤ 9
    · have h2' : ¬ (9 : Int) < (es.length : Int) := by omega
      simp [isT, f_in_range, h1, h2']
      rw [comp_is (enc := dE) (fun e => !edB n e) dE fun e _ => ⟨_, rfl, by simp [f_is_edge], fun _ => by simp⟩]
      cases h3 : es.all (edB n) with
      | false =>
        have h4 : ((es.filter fun e => !edB n e).map dE).isEmpty = false := by rw [List.isEmpty_map, filter_none]; simpa using h3
        simp [h4, graphB, h3]
      | true =>
        have h4 : ((es.filter fun e => !edB n e).map dE).isEmpty = true := by rw [List.isEmpty_map, filter_none]; simpa using h3
        simp [h4]
        rw [← List.map_tail, zipD_t, zip_map, bind_ok, comp_is (enc := fun p : Ed × Ed => pr2 (dE p.1) (dE p.2)) (fun p => ltE p.2 p.1) (fun _ => .int 1) fun e _ => ⟨_, rfl, by simp, fun _ => by simp⟩]
        simp only [bind_ok, truD_l, List.isEmpty_map, filter_none, ofR_ok, runR_ret, graphB, h1, h2, h3, upB]
        simp
    · have h2' : (9 : Int) < (es.length : Int) := by omega
      simp [isT, f_in_range, h1, h2', graphB, h2]
  · simp [isT, f_in_range, h1, graphB]
theorem VG.ok {n : Int} {es : List Ed} (h : VG n es) : graphB n es = true := by
  have h1 : decide (2 ≤ n ∧ n ≤ 6) = true := decide_eq_true ⟨h.lo, h.hi⟩
  have h2 : decide (es.length ≤ 9) = true := decide_eq_true h.len
  have h3 : es.all (edB n) = true := List.all_eq_true.mpr fun e he => decide_eq_true (h.ed e he)
  have h4 : upB es = true := List.all_eq_true.mpr fun p hp => by rw [adj_of h.up p hp]; rfl
  unfold graphB
  rw [h1, h2, h3, h4]
  rfl
theorem VG.of {n : Int} {es : List Ed} (h : graphB n es = true) : VG n es := by
  unfold graphB at h
  simp only [Bool.and_eq_true, decide_eq_true_eq, List.all_eq_true, upB, edB, Bool.not_eq_true'] at h
  obtain ⟨⟨h1, h2⟩, h3, h4, h5⟩ := h
  refine ⟨h1, h2, h3, h4, of_adj (fun a b c x y => ?_) h5⟩
  obtain ⟨a1, a2⟩ := a
  obtain ⟨b1, b2⟩ := b
  obtain ⟨c1, c2⟩ := c
  simp [ltE] at x y ⊢
  omega
theorem f_check_graph {n : Int} {es : List Ed} (h : VG n es) : F_check_graph [dG n es] = .ok .none := by
  rw [u_check_graph, S_check_graph]
  simp [f_is_graph, h.ok]
theorem f_check_graph_x {d : PyData} (h : F_is_graph [d] = .ok (.bool false)) : F_check_graph [d] = .err "InvalidGraph" := by
  rw [u_check_graph, S_check_graph]
  simp [h]
def risB (ns : List Int) (c : Int) : Bool := (ns.all fun k => decide (0 ≤ k ∧ k ≤ c - 1)) && ((ns.zip ns.tail).all fun p => decide (p.1 < p.2))
theorem f_is_rising (ns : List Int) (c : Int) : F_is_rising [dT ns, .int c] = .ok (.bool (risB ns c)) := by
  rw [u_is_rising, S_is_rising, dT]
  simp [isT]
  rw [comp_is (enc := PyData.int) (fun k => !decide (0 ≤ k ∧ k ≤ c - 1)) PyData.int fun e _ => ⟨_, rfl, by simp [f_in_range], fun _ => by simp⟩]
  cases h3 : (ns.all fun k => decide (0 ≤ k ∧ k ≤ c - 1)) with
  | false =>
    have h4 : ((ns.filter fun k => !decide (0 ≤ k ∧ k ≤ c - 1)).map PyData.int).isEmpty = false := by rw [List.isEmpty_map, filter_none]; simpa using h3
    simp only [bind_ok, truD_l, h4, risB, h3]
    simp
  | true =>
    have h4 : ((ns.filter fun k => !decide (0 ≤ k ∧ k ≤ c - 1)).map PyData.int).isEmpty = true := by rw [List.isEmpty_map, filter_none]; simpa using h3
    simp only [bind_ok, truD_l, h4, risB, h3]
    simp
    rw [← List.map_tail, zipD_t, zip_map, bind_ok, comp_is (enc := fun p : Int × Int => pr2 (.int p.1) (.int p.2)) (fun p => decide (p.2 ≤ p.1)) (fun _ => .int 1) fun e _ => ⟨_, rfl, by simp, fun _ => by simp⟩]
    simp only [bind_ok, truD_l, List.isEmpty_map, filter_none, ofR_ok, runR_ret]
    simp
    congr 1
    funext p
    by_cases h : p.1 < p.2
    · simp [h, Int.not_le.mpr h]
    · simp [h, Int.not_lt.mp h]
theorem f_is_rising_x {d : PyData} (c : Int) (h : isT d = false) (hs : notScr d = .ok ()) : F_is_rising [d, .int c] = .ok (.bool false) := by
  rw [u_is_rising, S_is_rising]
  simp [h, hs]
theorem risB_iff {ns : List Int} {c : Int} : risB ns c = true ↔ ns.Pairwise (· < ·) ∧ ∀ k ∈ ns, 0 ≤ k ∧ k ≤ c - 1 := by
  unfold risB
  simp only [Bool.and_eq_true, List.all_eq_true, decide_eq_true_eq]
  constructor
  · rintro ⟨h1, h2⟩
    exact ⟨of_adj (fun a b c x y => by omega) h2, h1⟩
  · rintro ⟨h1, h2⟩
    exact ⟨h2, fun p hp => adj_of h1 p hp⟩
theorem f_are_marks (n : Int) (es : List Ed) (ms : List Int) : F_are_marks [dG n es, dT ms] = .ok (.bool (risB ms n && decide (2 ≤ ms.length))) := by
  rw [u_are_marks, S_are_marks, dG]
  simp [f_is_rising]
  cases risB ms n with
  | false => simp
  | true =>
    simp [dT]
    omega
theorem VM.ok {n : Int} {ms : List Int} (h : VM n ms) : (risB ms n && decide (2 ≤ ms.length)) = true := by
  rw [Bool.and_eq_true, risB_iff, decide_eq_true_eq]
  exact ⟨⟨h.up, h.rg⟩, h.two⟩
theorem f_check_marks {n : Int} {es : List Ed} {ms : List Int} (h : VG n es) (hm : VM n ms) : F_check_marks [dG n es, dT ms] = .ok .none := by
  rw [u_check_marks, S_check_marks]
  simp [f_check_graph h, f_are_marks, hm.ok]
theorem f_check_marks_x {n : Int} {es : List Ed} {d : PyData} (h : VG n es) (hm : F_are_marks [dG n es, d] = .ok (.bool false)) : F_check_marks [dG n es, d] = .err "InvalidMarks" := by
  rw [u_check_marks, S_check_marks]
  simp [f_check_graph h, hm]
theorem f_check_marks_g {g d : PyData} (h : F_is_graph [g] = .ok (.bool false)) : F_check_marks [g, d] = .err "InvalidGraph" := by
  rw [u_check_marks, S_check_marks]
  simp [f_check_graph_x h]
def deg' (es : List Ed) (v : Int) : Nat := (es.filter fun e => decide (v = e.1 ∨ v = e.2)).length
theorem f__law_degree (n : Int) (es : List Ed) (v : Int) : F__law_degree [dG n es, .int v] = .ok (.int ((es.filter fun e => decide (v = e.1 ∨ v = e.2)).length)) := by
  rw [u__law_degree, S__law_degree, dG, dEs]
  simp
  rw [comp_is (enc := dE) (fun e => decide (v = e.1 ∨ v = e.2)) dE fun e _ => ⟨_, rfl, by simp, fun _ => by simp⟩]
  simp
theorem f__law_cell (ns : List Int) {k : Int} (hk : 0 ≤ k) : ∃ c, F__law_cell [scrD ns, .int k] = .ok (.int c) := by
  rw [u__law_cell, S__law_cell]
  by_cases h : k < ns.length
  · have e : ixD (scrD ns) (.int k) = .ok (.int (ns[k.toNat]'(by omega))) := by
      show (if scrB (ns.map fun n => (PyData.int n, PyData.none)) = true then (Res.ofOpt (atI (ns.map fun n => (PyData.int n, PyData.none)) k)).bind (fun p => Res.ok p.1) else .bad) = _
      rw [if_pos (scrB_map ns), atI_pos _ hk, List.getElem?_map, List.getElem?_eq_getElem (by omega)]
      rfl
    exact ⟨ns[k.toNat]'(by omega), by simp [h, e]⟩
  · exact ⟨0, by simp [h]⟩
theorem powD_18 : powD (.int 10) (.int 18) = .ok (.int 1000000000000000000) := by
  show (if (0 : Int) ≤ 18 ∧ (18 : Int) ≤ 1000000 ∧ (10 : Int).natAbs < 2 ^ 64 then Res.ok (PyData.int ((10 : Int) ^ (18 : Int).toNat)) else .bad) = _
  rw [if_pos (by decide)]
  rfl
theorem len_irange (lo hi : Int) : (irange lo hi).length = (hi - lo).toNat := by
  unfold irange
  rw [List.length_map, List.length_range]
theorem irange_lt (lo hi : Int) : (irange lo hi).Pairwise (· < ·) := by
  unfold irange
  rw [List.pairwise_map]
  exact List.pairwise_lt_range.imp fun h => by omega
theorem f__law_row (ns : List Int) {k : Int} (hk : 0 ≤ k) : ∃ ds : List Int, F__law_row [scrD ns, .int k] = .ok (dL ds) ∧ ds.length = 60 ∧ ∀ d ∈ ds, 0 ≤ d ∧ d < 1000 := by
  obtain ⟨c0, h0⟩ := f__law_cell ns hk
  obtain ⟨ρ', e, c, fs, t, rfl, hl, hf⟩ := loop_from (enc := PyData.int) (g := gN 4) (S := L__law_row_1) (fun i ρ => ∃ (c : Int) (fs : List Int) (t : Sl), ρ = [.val (scrD ns), .val (.int k), .val (.int c), .own (fs.map .int), t] ∧ fs.length = i ∧ ∀ d ∈ fs, 0 ≤ d ∧ d < 1000)
    (xs := irange 0 60) (ρ := [.val (scrD ns), .val (.int k), .val (.int c0), .own [], .no]) ⟨c0, [], .no, rfl, rfl, fun _ h => nomatch h⟩ (fun i x ρ hx ⟨c, fs, t, he, hl, hf⟩ => by
      subst he
      have hi : i < 60 := by have := (List.getElem?_eq_some_iff.mp hx).1; rw [len_irange] at this; omega
      obtain ⟨c1, h1⟩ := f__law_cell ns (k := (k + 1 + x) % 20) (by omega)
      have m1 : mulD (.int c) (.int 48271) = .ok (.int (c * 48271)) := mulD_r (by omega)
      have m2 : mulD (.int 131) (.int x) = .ok (.int (131 * x)) := mulD_l (by omega)
      have lt : (fs.map PyData.int).length < 16000000 := by rw [List.length_map]; omega
      by_cases hc : c0 < 1000000000000000000
      · refine ⟨[.val (scrD ns), .val (.int k), .val (.int ((c * 48271 + 131 * x + 7 + c1) % 2147483647)), .own ((fs ++ [(c * 48271 + 131 * x + 7 + c1) % 2147483647 / 11 % 1000]).map .int), .val (.int x)], ?_, _, _, _, rfl, by simp [hl], fun d hd => ?_⟩
        · simp [L__law_row_1, h0, powD_18, hc, h1, m1, m2, appR_own lt]
        · rcases List.mem_append.mp hd with z | z
          · exact hf d z
          · rw [List.mem_singleton] at z
            omega
      · refine ⟨[.val (scrD ns), .val (.int k), .val (.int (c / 1000)), .own ((fs ++ [c % 1000]).map .int), .val (.int x)], ?_, _, _, _, rfl, by simp [hl], fun d hd => ?_⟩
        · simp [L__law_row_1, h0, powD_18, hc, appR_own lt]
        · rcases List.mem_append.mp hd with z | z
          · exact hf d z
          · rw [List.mem_singleton] at z
            omega)
  refine ⟨fs, ?_, by rw [hl, len_irange]; rfl, hf⟩
  rw [u__law_row, S__law_row]
  simp [h0, rng1_is (hi := 60) (by omega) (by omega), e, dL]

/-- the draws: sixty numbers below 1000 -/
structure Dr (ds : List Int) : Prop where
  len : ds.length = 60
  rg : ∀ d ∈ ds, 0 ≤ d ∧ d < 1000
theorem Dr.at {ds : List Int} (h : Dr ds) {i : Int} (h0 : 0 ≤ i) (h1 : i < 60) : ∃ v : Int, ixD (.list (ds.map .int)) (.int i) = .ok (.int v) ∧ 0 ≤ v ∧ v < 1000 := by
  have hl := h.len
  refine ⟨ds[i.toNat]'(by omega), ?_, h.rg _ (List.getElem_mem _)⟩
  rw [ixD_l, atI_pos _ h0, List.getElem?_map, List.getElem?_eq_getElem (by omega)]
  rfl
theorem law_row (ns : List Int) {k : Int} (hk : 0 ≤ k) : ∃ ds : List Int, F__law_row [scrD ns, .int k] = .ok (dL ds) ∧ Dr ds := by
  obtain ⟨ds, h1, h2, h3⟩ := f__law_row ns hk
  exact ⟨ds, h1, h2, h3⟩
theorem at_row {row : List Int} {i : Int} (h0 : 0 ≤ i) (h1 : i < row.length) : ixD (.list (row.map .int)) (.int i) = .ok (.int (row[i.toNat]'(by omega))) := by
  rw [ixD_l, atI_pos _ h0, List.getElem?_map, List.getElem?_eq_getElem (by omega)]
  rfl
theorem irange_at {lo hi x : Int} {i : Nat} (h : (irange lo hi)[i]? = some x) : x = lo + i ∧ x < hi := by
  unfold irange at h
  rw [List.getElem?_map] at h
  cases q : (List.range (hi - lo).toNat)[i]? with
  | none => rw [q] at h; cases h
  | some j =>
    rw [q] at h
    obtain ⟨h1, h2⟩ := List.getElem?_eq_some_iff.mp q
    rw [List.getElem_range] at h2
    rw [List.length_range] at h1
    subst h2
    have h : lo + (i : Int) = x := Option.some.inj h
    omega
theorem row_loop {a0 a1 a2 a3 : Sl} {t6 : Sl} {n : Int} {row : List Int} (hr : ∀ r ∈ row, 0 ≤ r ∧ r ≤ n - 1) (hl : row.length ≤ 10) {es : List Ed} (he : ∀ e ∈ es, 0 ≤ e.1 ∧ e.1 < e.2 ∧ e.2 ≤ n - 1) (hz : es.length ≤ 1000) (t8 : Sl) :
    ∃ (es' : List Ed) (t : Sl), loop (gN 8) L__law_graph_1 ((irange 1 row.length).map .int) [a0, a1, a2, a3, .val (.int n), .own (es.map dE), t6, .val (.list (row.map .int)), t8] = .nx [a0, a1, a2, a3, .val (.int n), .own (es'.map dE), t6, .val (.list (row.map .int)), t] ∧ (∀ e ∈ es', 0 ≤ e.1 ∧ e.1 < e.2 ∧ e.2 ≤ n - 1) ∧ es'.length ≤ es.length + 10 := by
  obtain ⟨ρ', e, es', t, rfl, h1, h2⟩ := loop_from (enc := PyData.int) (g := gN 8) (S := L__law_graph_1) (fun i ρ => ∃ (es' : List Ed) (t : Sl), ρ = [a0, a1, a2, a3, .val (.int n), .own (es'.map dE), t6, .val (.list (row.map .int)), t] ∧ (∀ e ∈ es', 0 ≤ e.1 ∧ e.1 < e.2 ∧ e.2 ≤ n - 1) ∧ es'.length ≤ es.length + i)
    (xs := irange 1 row.length) (ρ := [a0, a1, a2, a3, .val (.int n), .own (es.map dE), t6, .val (.list (row.map .int)), t8]) ⟨es, t8, rfl, he, by omega⟩ (fun i x ρ hx ⟨es', t, e, h1, h2⟩ => by
      subst e
      obtain ⟨ex, hx2⟩ := irange_at hx
      have q1 := at_row (row := row) (i := x) (by omega) (by omega)
      have q2 := at_row (row := row) (i := x - 1) (by omega) (by omega)
      have b1 := hr _ (List.getElem_mem (l := row) (n := x.toNat) (by omega))
      have b2 := hr _ (List.getElem_mem (l := row) (n := (x - 1).toNat) (by omega))
      generalize row[x.toNat]'(by omega) = u at q1 b1
      generalize row[(x - 1).toNat]'(by omega) = v at q2 b2
      have lt : (es'.map dE).length < 16000000 := by rw [List.length_map]; omega
      simp only [ixD_l] at q1 q2
      by_cases huv : u = v
      · refine ⟨[a0, a1, a2, a3, .val (.int n), .own (es'.map dE), t6, .val (.list (row.map .int)), .val (.int x)], ?_, es', _, rfl, h1, by omega⟩
        simp [L__law_graph_1, q1, q2, huv]
      · refine ⟨[a0, a1, a2, a3, .val (.int n), .own ((es' ++ [(if v < u then v else u, if v > u then v else u)]).map dE), t6, .val (.list (row.map .int)), .val (.int x)], ?_, _, _, rfl, fun e he => ?_, by simp; omega⟩
        · simp [L__law_graph_1, q1, q2, huv, szOk_lt, appR_own lt, dE]
        · rcases List.mem_append.mp he with z | z
          · exact h1 e z
          · rw [List.mem_singleton] at z
            subst z
            show 0 ≤ (if v < u then v else u) ∧ (if v < u then v else u) < (if v > u then v else u) ∧ (if v > u then v else u) ≤ n - 1
            split <;> split <;> omega)
  refine ⟨es', t, e, h1, ?_⟩
  rw [len_irange] at h2
  omega
theorem graph_turn {a0 a1 a2 : Sl} {ds : List Int} (hd : Dr ds) {n : Int} (hn : 2 ≤ n ∧ n ≤ 6) {es : List Ed} (he : ∀ e ∈ es, 0 ≤ e.1 ∧ e.1 < e.2 ∧ e.2 ≤ n - 1) (hz : es.length ≤ 900) (t6 t7 t8 : Sl) {x : Int} (hx : 0 ≤ x ∧ x ≤ 4) :
    ∃ (es' : List Ed) (t7' t8' : Sl), turn (gN 6) L__law_graph_2 (.int x) [a0, a1, a2, .val (.list (ds.map .int)), .val (.int n), .own (es.map dE), t6, t7, t8] = .nx [a0, a1, a2, .val (.list (ds.map .int)), .val (.int n), .own (es'.map dE), .val (.int x), t7', t8'] ∧ (∀ e ∈ es', 0 ≤ e.1 ∧ e.1 < e.2 ∧ e.2 ≤ n - 1) ∧ es'.length ≤ es.length + 10 := by
  obtain ⟨v1, q1, b1⟩ := hd.at (i := 30 + x) (by omega) (by omega)
  obtain ⟨v2, q2, b2⟩ := hd.at (i := 40) (by omega) (by omega)
  obtain ⟨v3, q3, b3⟩ := hd.at (i := 50) (by omega) (by omega)
  have m2 : mulD (.int 5) (.int x) = .ok (.int (5 * x)) := mulD_l (by omega)
  -- the row
  obtain ⟨f, hf⟩ : ∃ f : Int → Int, ∀ s : Int, 0 ≤ s → s < 5 → ixD (.list (ds.map .int)) (.int (2 + 5 * x + s)) = .ok (.int (f s)) ∧ 0 ≤ f s ∧ f s < 1000 := by
    refine ⟨fun s => if h : 0 ≤ s ∧ s < 5 then (hd.at (i := 2 + 5 * x + s) (by omega) (by omega)).choose else 0, fun s h0 h1 => ?_⟩
    simp only [dif_pos (And.intro h0 h1)]
    exact (hd.at (i := 2 + 5 * x + s) (by omega) (by omega)).choose_spec
  obtain ⟨L, hL⟩ : ∃ L : Int, L = 3 + v1 % 2 := ⟨_, rfl⟩
  have hL2 : 3 ≤ L ∧ L ≤ 4 := by omega
  have c1 : comp (gN 8) bYes (e2 modD (e2 ixD (eVarS 3) (e2 addD (e2 addD (eC (.int 2)) (e2 mulD (eC (.int 5)) (eVarS 6))) (eVarS 8))) (eVarS 4)) [a0, a1, a2, .val (.list (ds.map .int)), .val (.int n), .own (es.map dE), .val (.int x), t7, .no] ((irange 0 L).map .int) = .ok (((irange 0 L).map fun s => f s % n).map .int) := by
    rw [comp_all (enc := PyData.int) (fun s => .int (f s % n)) fun s hs => ?_, List.map_map]
    · rfl
    · rw [mem_irange] at hs
      obtain ⟨z, _, _⟩ := hf s (by omega) (by omega)
      simp only [ixD_l] at z
      refine ⟨_, rfl, ?_⟩
      simp [m2, z, modD_i (show 0 < n by omega)]
  obtain ⟨row0, hr0⟩ : ∃ row0, row0 = (irange 0 L).map fun s => f s % n := ⟨_, rfl⟩
  have hrow0 : ∀ r ∈ row0, 0 ≤ r ∧ r ≤ n - 1 := fun r hr => by
    rw [hr0] at hr
    obtain ⟨s, _, rfl⟩ := List.mem_map.mp hr
    have := Int.emod_nonneg (f s) (show n ≠ 0 by omega)
    have := Int.emod_lt_of_pos (f s) (show 0 < n by omega)
    omega
  have hlen0 : row0.length = L.toNat := by rw [hr0, List.length_map, len_irange]; omega
  rw [← hr0] at c1
  obtain ⟨row1, hr1⟩ : ∃ row1, row1 = if v2 % 3 = 0 then row0.take 1 else row0 := ⟨_, rfl⟩
  have hrow1 : (∀ r ∈ row1, 0 ≤ r ∧ r ≤ n - 1) ∧ 1 ≤ row1.length ∧ row1.length ≤ 4 := by
    rw [hr1]
    split
    · refine ⟨fun r hr => hrow0 r (List.mem_of_mem_take hr), ?_, ?_⟩
      · rw [List.length_take]; omega
      · rw [List.length_take]; omega
    · exact ⟨hrow0, by omega, by omega⟩
  obtain ⟨row2, hr2⟩ : ∃ row2, row2 = row1 ++ if row1.length = 1 then [v3 % n] else row1.take 1 := ⟨_, rfl⟩
  have hrow2 : (∀ r ∈ row2, 0 ≤ r ∧ r ≤ n - 1) ∧ row2.length ≤ 10 := by
    rw [hr2]
    refine ⟨fun r hr => ?_, ?_⟩
    · rcases List.mem_append.mp hr with z | z
      · exact hrow1.1 r z
      · split at z
        · rw [List.mem_singleton] at z
          have := Int.emod_nonneg v3 (show n ≠ 0 by omega)
          have := Int.emod_lt_of_pos v3 (show 0 < n by omega)
          omega
        · exact hrow1.1 r (List.mem_of_mem_take z)
    · rw [List.length_append]
      split
      · simp; omega
      · rw [List.length_take]; omega
  obtain ⟨es', t, e, h1, h2⟩ := row_loop (a0 := a0) (a1 := a1) (a2 := a2) (a3 := .val (.list (ds.map .int))) (t6 := .val (.int x)) (n := n) (row := row2) hrow2.1 hrow2.2 (es := es) he (by omega) .no
  refine ⟨es', .val (.list (row2.map .int)), t, ?_, h1, h2⟩
  simp only [ixD_l] at q1 q2 q3
  have e1 : cutD (row0.map PyData.int) none (some 1) = (row0.take 1).map .int := by
    have := cut_to (row0.map PyData.int) 1
    rw [List.map_take]
    exact this
  have e2' : cutD (row1.map PyData.int) none (some 1) = (row1.take 1).map .int := by
    have := cut_to (row1.map PyData.int) 1
    rw [List.map_take]
    exact this
  have r1 : rng1D [.int (3 + v1 % 2)] = .ok ((irange 0 L).map .int) := by rw [hL]; exact rng1_is (by omega) (by omega)
  have r2 : rng2D [.int 1, .int row2.length] = .ok ((irange 1 row2.length).map .int) := rng2_is (by omega) (by omega) (by omega) (by omega)
  have sz : szOk ((row1.map PyData.int).length + (if row1.length = 1 then [PyData.int (v3 % n)] else (row1.take 1).map .int).length) = .ok () := szOk_lt (by
    rw [List.length_map]
    split
    · simp; omega
    · rw [List.length_map, List.length_take]; omega)
  have first : (sForget 8 (sSetL 7 (eLcA 8 (iRng1D (eCons (e2 addD (eC (.int 3)) (e2 modD (e2 ixD (eVarS 3) (e2 addD (eC (.int 30)) (eVarS 6))) (eC (.int 2)))) eNil)) bYes (e2 modD (e2 ixD (eVarS 3) (e2 addD (e2 addD (eC (.int 2)) (e2 mulD (eC (.int 5)) (eVarS 6))) (eVarS 8))) (eVarS 4))))) [a0, a1, a2, .val (.list (ds.map .int)), .val (.int n), .own (es.map dE), .val (.int x), t7, t8] = .nx [a0, a1, a2, .val (.list (ds.map .int)), .val (.int n), .own (es.map dE), .val (.int x), .val (.list (row0.map .int)), .no] := by
    simp [q1, r1, c1]
  have second : (sIf (tst (e2 eqD (e2 modD (e2 ixD (eVarS 3) (eC (.int 40))) (eC (.int 3))) (eC (.int 0)))) (sSet 7 (eSl (eVarS 7) oNone (oSome (eC (.int 1))))) sNil) [a0, a1, a2, .val (.list (ds.map .int)), .val (.int n), .own (es.map dE), .val (.int x), .val (.list (row0.map .int)), .no] = .nx [a0, a1, a2, .val (.list (ds.map .int)), .val (.int n), .own (es.map dE), .val (.int x), .val (.list (row1.map .int)), .no] := by
    rw [hr1]
    by_cases hv : v2 % 3 = 0
    · simp [q2, hv, e1]
    · simp [q2, hv]
  have third : (sSet 7 (e2 addD (eVarS 7) (eIf (tst (e2 eqD (eCall (call1 lenD) (eCons (eVarS 7) eNil)) (eC (.int 1)))) (eLst (eCons (e2 modD (e2 ixD (eVarS 3) (eC (.int 50))) (eVarS 4)) eNil)) (eSl (eVarS 7) oNone (oSome (eC (.int 1))))))) [a0, a1, a2, .val (.list (ds.map .int)), .val (.int n), .own (es.map dE), .val (.int x), .val (.list (row1.map .int)), .no] = .nx [a0, a1, a2, .val (.list (ds.map .int)), .val (.int n), .own (es.map dE), .val (.int x), .val (.list (row2.map .int)), .no] := by
    rw [hr2]
    by_cases hv : row1.length = 1
    · rw [if_pos hv] at sz
      have hv' : ((row1.length : Nat) : Int) = 1 := by omega
      have sz1 : szOk 1 = .ok () := szOk_lt (by omega)
      simp [hv', q3, sz1, modD_i (show 0 < n by omega)]
      simp [hv] at sz
      simp [sz, hv]
    · rw [if_neg hv] at sz
      have hv' : ¬ ((row1.length : Nat) : Int) = 1 := by omega
      simp [hv', e2']
      simp at sz
      simp [sz, hv]
  rw [turn_gN]
  show L__law_graph_2 [a0, a1, a2, .val (.list (ds.map .int)), .val (.int n), .own (es.map dE), .val (.int x), t7, t8] = _
  rw [L__law_graph_2, ev_seq, first, seqR_nx, ev_seq, second, seqR_nx, ev_seq, third, seqR_nx, ev_sFor]
  have it : iRng2D (eCons (eC (.int 1)) (eCons (eCall (call1 lenD) (eCons (eVarS 7) eNil)) eNil)) [a0, a1, a2, .val (.list (ds.map .int)), .val (.int n), .own (es.map dE), .val (.int x), .val (.list (row2.map .int)), .no] = rng2D [.int 1, .int row2.length] := by
    simp
  rw [it, r2, ofR_ok]
  exact e
theorem f__law_graph (ns : List Int) {k m : Int} (hk : 0 ≤ k) (hm : 0 ≤ m ∧ m ≤ 9) : ∃ n es, F__law_graph [scrD ns, .int k, .int m] = .ok (dG n es) ∧ VG n es ∧ es.length ≤ m.toNat := by
  obtain ⟨ds, hrow, hd⟩ := law_row ns hk
  obtain ⟨v0, q0, b0⟩ := hd.at (i := 0) (by omega) (by omega)
  obtain ⟨v1, q1, b1⟩ := hd.at (i := 1) (by omega) (by omega)
  obtain ⟨n, hn⟩ : ∃ n, n = 2 + v0 % 5 := ⟨_, rfl⟩
  have hn2 : 2 ≤ n ∧ n ≤ 6 := by omega
  obtain ⟨ρ', e, es, t6, t7, t8, rfl, h1, h2⟩ := loop_from (enc := PyData.int) (g := gN 6) (S := L__law_graph_2) (fun i ρ => ∃ (es : List Ed) (t6 t7 t8 : Sl), ρ = [.val (scrD ns), .val (.int k), .val (.int m), .val (.list (ds.map .int)), .val (.int n), .own (es.map dE), t6, t7, t8] ∧ (∀ e ∈ es, 0 ≤ e.1 ∧ e.1 < e.2 ∧ e.2 ≤ n - 1) ∧ es.length ≤ 10 * i)
    (xs := irange 0 (v1 % 5)) (ρ := [.val (scrD ns), .val (.int k), .val (.int m), .val (.list (ds.map .int)), .val (.int n), .own [], .no, .no, .no]) ⟨[], .no, .no, .no, rfl, (fun _ h => nomatch h), by simp⟩ (fun i x ρ hx ⟨es, t6, t7, t8, e, h1, h2⟩ => by
      subst e
      obtain ⟨ex, hx2⟩ := irange_at hx
      obtain ⟨es', t7', t8', e, h3, h4⟩ := graph_turn (a0 := .val (scrD ns)) (a1 := .val (.int k)) (a2 := .val (.int m)) hd hn2 h1 (by omega) t6 t7 t8 (x := x) (by omega)
      exact ⟨_, e, es', _, _, _, rfl, h3, by omega⟩)
  rw [len_irange] at h2
  have hc : cutD (es.map dE) none (some m) = (es.take m.toNat).map dE := by
    have z := cut_to (es.map dE) m.toNat
    rw [Int.toNat_of_nonneg hm.1] at z
    rw [z, List.map_take]
  obtain ⟨es2, hes2⟩ : ∃ es2, es2 = es.take m.toNat := ⟨_, rfl⟩
  rw [← hes2] at hc
  refine ⟨n, sortE es2, ?_, ⟨hn2.1, hn2.2, ?_, fun e he => ?_, sortE_sorted _⟩, ?_⟩
  · rw [u__law_graph, S__law_graph]
    simp only [ixD_l] at q0 q1
    have r : rng1D [.int (v1 % 5)] = .ok ((irange 0 (v1 % 5)).map .int) := rng1_is (by omega) (by omega)
    have s2 : szOk 2 = .ok () := szOk_lt (by omega)
    simp [hrow, dL, q0, q1, ← hn, r, e, hc, s2, dG, dEs]
  · rw [(sortE_perm _).length_eq, hes2, List.length_take]; omega
  · rw [hes2] at he
    exact h1 e (List.mem_of_mem_take ((sortE_perm _).mem_iff.mp he))
  · rw [(sortE_perm _).length_eq, hes2, List.length_take]; omega

def drw (ds : List Int) (i : Int) : Int := ds.getD i.toNat 0
theorem Dr.ix {ds : List Int} (h : Dr ds) {i : Int} (h0 : 0 ≤ i) (h1 : i < 60) : Res.ofOpt (atI (ds.map PyData.int) i) = .ok (.int (drw ds i)) := by
  have hl := h.len
  rw [atI_pos _ h0, List.getElem?_map, List.getElem?_eq_getElem (by omega)]
  unfold drw
  rw [List.getD_eq_getElem?_getD, List.getElem?_eq_getElem (by omega)]
  rfl
theorem Dr.bd {ds : List Int} (h : Dr ds) (i : Int) : 0 ≤ drw ds i ∧ drw ds i < 1000 := by
  unfold drw
  rw [List.getD_eq_getElem?_getD]
  cases q : ds[i.toNat]? with
  | none => exact ⟨by decide, by decide⟩
  | some v => exact h.rg v (List.mem_of_getElem? q)
theorem sort_add {ms : List Int} (h : ms.Pairwise (· < ·)) {v : Int} (hv : v ∉ ms) : (sortI (ms ++ [v])).Pairwise (· < ·) := by
  have h1 := sortI_sorted (ms ++ [v])
  have nd : (ms ++ [v]).Nodup := by
    rw [List.nodup_append]
    refine ⟨asc_nodup h, by simp, fun a ha b hb => ?_⟩
    rw [List.mem_singleton] at hb
    subst hb
    exact fun e => hv (e ▸ ha)
  have h2 : (sortI (ms ++ [v])).Nodup := (sortI_perm _).nodup_iff.mpr nd
  exact (h1.and h2).imp fun h => by
    obtain ⟨a, b⟩ := h
    omega
theorem mem_sort_add {ms : List Int} {v k : Int} : k ∈ sortI (ms ++ [v]) ↔ k ∈ ms ∨ k = v := by
  rw [(sortI_perm _).mem_iff]
  simp
theorem f__law_marks (ns : List Int) {k : Int} (hk : 0 ≤ k) {n : Int} {es : List Ed} (hg : VG n es) : ∃ ms, F__law_marks [scrD ns, .int k, dG n es] = .ok (dT ms) ∧ VM n ms := by
  obtain ⟨ds, hrow, hd⟩ := law_row ns hk
  have hlo := hg.lo
  have hhi := hg.hi
  have lawdeg := fun v => f__law_degree n es v
  have r : rng1D [.int n] = .ok ((irange 0 n).map .int) := rng1_is (by omega) (by omega)
  obtain ⟨f0, hf0⟩ : ∃ f0, f0 = (irange 0 n).filter fun v => decide (drw ds v % 3 = 0) := ⟨_, rfl⟩
  obtain ⟨f1, hf1⟩ : ∃ f1, f1 = if 0 < drw ds 10 % 4 then f0 ++ (irange 0 n).filter (fun v => decide (((deg' es v : Nat) : Int) % 2 = 1)) else f0 := ⟨_, rfl⟩
  have hl0 : f0.length ≤ 6 := by
    rw [hf0]
    have := List.length_filter_le (fun v => decide (drw ds v % 3 = 0)) (irange 0 n)
    rw [len_irange] at this
    omega
  have hl1 : f1.length < 64 := by
    rw [hf1]
    have := List.length_filter_le (fun v => decide (((deg' es v : Nat) : Int) % 2 = 1)) (irange 0 n)
    rw [len_irange] at this
    split
    · rw [List.length_append]; omega
    · omega
  have hm1 : ∀ v ∈ f1, 0 ≤ v ∧ v ≤ n - 1 := fun v hv => by
    have h0 : ∀ v ∈ f0, 0 ≤ v ∧ v ≤ n - 1 := fun v hv => by
      rw [hf0] at hv
      have := mem_irange.mp (List.mem_filter.mp hv).1
      omega
    rw [hf1] at hv
    split at hv
    · rcases List.mem_append.mp hv with z | z
      · exact h0 v z
      · have := mem_irange.mp (List.mem_filter.mp z).1
        omega
    · exact h0 v hv
  obtain ⟨ρ', e, ms, t, rfl, h1, h2, h3⟩ := loop_from (enc := PyData.int) (g := gN 5) (S := L__law_marks_1) (fun i ρ => ∃ (ms : List Int) (t : Sl), ρ = [.val (scrD ns), .val (.int k), .val (dG n es), .val (.list (ds.map .int)), .val (.list (ms.map .int)), t] ∧ ms.Pairwise (· < ·) ∧ (∀ m ∈ ms, 0 ≤ m ∧ m ≤ n - 1) ∧ (ms.length < 2 → ∀ j : Int, 0 ≤ j → j < i → j ∈ ms))
    (xs := irange 0 n) (ρ := [.val (scrD ns), .val (.int k), .val (dG n es), .val (.list (ds.map .int)), .val (.list ((usort f1).map .int)), .no]) ⟨usort f1, .no, rfl, usort_lt f1, fun m hm => hm1 m (mem_usort.mp hm), fun _ j h0 h1 => by omega⟩ (fun i x ρ hx ⟨ms, t, e, h1, h2, h3⟩ => by
      subst e
      obtain ⟨ex, hx2⟩ := irange_at hx
      by_cases hlen : ms.length < 2
      · by_cases hin : x ∈ ms
        · refine ⟨[.val (scrD ns), .val (.int k), .val (dG n es), .val (.list (ds.map .int)), .val (.list (ms.map .int)), .val (.int x)], ?_, ms, _, rfl, h1, h2, fun hl j j0 j1 => ?_⟩
          · have hlen' : ((ms.length : Nat) : Int) < 2 := by omega
            simp [L__law_marks_1, hlen', hin]
          · by_cases hj : j < i
            · exact h3 hl j j0 hj
            · have : j = x := by omega
              rw [this]; exact hin
        · refine ⟨[.val (scrD ns), .val (.int k), .val (dG n es), .val (.list (ds.map .int)), .val (.list ((sortI (ms ++ [x])).map .int)), .val (.int x)], ?_, sortI (ms ++ [x]), _, rfl, sort_add h1 hin, fun m hm => ?_, fun hl j j0 j1 => ?_⟩
          · have hlen' : ((ms.length : Nat) : Int) < 2 := by omega
            have s1 : szOk 1 = .ok () := szOk_lt (by omega)
            have s2 : szOk (ms.length + 1) = .ok () := szOk_lt (by omega)
            have q := sortedD_int (ms ++ [x])
            rw [List.map_append] at q
            simp at q
            simp [L__law_marks_1, hlen', hin, s1, s2, q]
          · rcases mem_sort_add.mp hm with z | z
            · exact h2 m z
            · omega
          · by_cases hj : j < i
            · exact mem_sort_add.mpr (.inl (h3 hlen j j0 hj))
            · exact mem_sort_add.mpr (.inr (by omega))
      · refine ⟨[.val (scrD ns), .val (.int k), .val (dG n es), .val (.list (ds.map .int)), .val (.list (ms.map .int)), .val (.int x)], ?_, ms, _, rfl, h1, h2, fun hl => absurd hl hlen⟩
        have hlen' : ¬ ((ms.length : Nat) : Int) < 2 := by omega
        simp [L__law_marks_1, hlen'])
  refine ⟨ms, ?_, ⟨?_, h1, h2⟩⟩
  · rw [u__law_marks, S__law_marks]
    have i10 := hd.ix (i := 10) (by omega) (by omega)
    have b10 := hd.bd 10
    have c0 : ∀ a b, comp (gN 5) (tst (e2 eqD (e2 modD (e2 ixD (eVarS 3) (eVarS 5)) (eC (.int 3))) (eC (.int 0)))) (eVar 5) [.val (scrD ns), .val (.int k), .val (dG n es), .val (.list (ds.map .int)), a, b] ((irange 0 n).map .int) = .ok (f0.map .int) := fun a b => by
      rw [hf0]
      exact comp_is (enc := PyData.int) _ PyData.int fun v hv => ⟨_, rfl, by
        have := mem_irange.mp hv
        simp [hd.ix (i := v) (by omega) (by omega)]
        rw [Bool.eq_iff_iff]; simp, fun _ => by simp⟩
    have c1 : ∀ a b, comp (gN 5) (tst (e2 eqD (e2 modD (eCallN F__law_degree (eCons (eVar 2) (eCons (eVar 5) eNil))) (eC (.int 2))) (eC (.int 1)))) (eVar 5) [.val (scrD ns), .val (.int k), .val (dG n es), .val (.list (ds.map .int)), a, b] ((irange 0 n).map .int) = .ok (((irange 0 n).filter (fun v => decide (((deg' es v : Nat) : Int) % 2 = 1))).map .int) := fun a b => by
      exact comp_is (enc := PyData.int) _ PyData.int fun v hv => ⟨_, rfl, by
        simp [lawdeg]
        rw [Bool.eq_iff_iff]; simp [deg'], fun _ => by simp⟩
    have g0 : ixD (dG n es) (.int 0) = .ok (.int n) := by simp [dG]
    have first : (sForget 5 (sSetL 4 (eLcA 5 (iRng1D (eCons (e2 ixD (eVarS 2) (eC (.int 0))) eNil)) (tst (e2 eqD (e2 modD (e2 ixD (eVarS 3) (eVarS 5)) (eC (.int 3))) (eC (.int 0)))) (eVar 5)))) [.val (scrD ns), .val (.int k), .val (dG n es), .val (.list (ds.map .int)), .no, .no] = .nx [.val (scrD ns), .val (.int k), .val (dG n es), .val (.list (ds.map .int)), .val (.list (f0.map .int)), .no] := by
      simp [g0, r, c0]
    have second : (sIf (tst (e2 gtD (e2 modD (e2 ixD (eVarS 3) (eC (.int 10))) (eC (.int 4))) (eC (.int 0)))) (sForget 5 (sSet 4 (e2 addD (eVarS 4) (eList (eLcA 5 (iRng1D (eCons (e2 ixD (eVarS 2) (eC (.int 0))) eNil)) (tst (e2 eqD (e2 modD (eCallN F__law_degree (eCons (eVar 2) (eCons (eVar 5) eNil))) (eC (.int 2))) (eC (.int 1)))) (eVar 5)))))) sNil) [.val (scrD ns), .val (.int k), .val (dG n es), .val (.list (ds.map .int)), .val (.list (f0.map .int)), .no] = .nx [.val (scrD ns), .val (.int k), .val (dG n es), .val (.list (ds.map .int)), .val (.list (f1.map .int)), .no] := by
      rw [hf1]
      by_cases hv : 0 < drw ds 10 % 4
      · have sz : szOk (f0.length + ((irange 0 n).filter (fun v => decide (((deg' es v : Nat) : Int) % 2 = 1))).length) = .ok () := szOk_lt (by
          have := List.length_filter_le (fun v => decide (((deg' es v : Nat) : Int) % 2 = 1)) (irange 0 n)
          rw [len_irange] at this
          omega)
        simp only [ev_sIf, ev_tst, ev_2, ev_varS, ev_C, List.getElem?_cons_succ, List.getElem?_cons_zero, slS_val, bind_ok, ixD_l, i10, modD_i (show (0 : Int) < 4 by omega), gtD_i, hv, decide_true, boolD_b, ofR_ok, if_true]
        simp [g0, r, c1, sz]
      · simp [i10, hv]
    have third : (sSet 4 (eSortedSet (eVarS 4))) [.val (scrD ns), .val (.int k), .val (dG n es), .val (.list (ds.map .int)), .val (.list (f1.map .int)), .no] = .nx [.val (scrD ns), .val (.int k), .val (dG n es), .val (.list (ds.map .int)), .val (.list ((usort f1).map .int)), .no] := by
      simp [setI_l hl1]
    have fourth : (sFor (iRng1D (eCons (e2 ixD (eVarS 2) (eC (.int 0))) eNil)) (gN 5) L__law_marks_1) [.val (scrD ns), .val (.int k), .val (dG n es), .val (.list (ds.map .int)), .val (.list ((usort f1).map .int)), .no] = .nx [.val (scrD ns), .val (.int k), .val (dG n es), .val (.list (ds.map .int)), .val (.list (ms.map .int)), t] := by
      simp [g0, r, e]
    have zeroth : (sSet 3 (eCallN F__law_row (eCons (eVar 0) (eCons (eVar 1) eNil)))) [.val (scrD ns), .val (.int k), .val (dG n es), .no, .no, .no] = .nx [.val (scrD ns), .val (.int k), .val (dG n es), .val (.list (ds.map .int)), .no, .no] := by
      simp [hrow, dL]
    rw [ev_seq, zeroth, seqR_nx, ev_seq, first, seqR_nx, ev_seq, second, seqR_nx, ev_seq, third, seqR_nx, ev_seq, fourth, seqR_nx]
    simp [dT]
  · have hlen : (irange 0 n).length = n.toNat := by rw [len_irange]; omega
    rw [hlen] at h3
    by_cases h : ms.length < 2
    · have a0 := h3 h 0 (by omega) (by omega)
      have a1 := h3 h 1 (by omega) (by omega)
      match ms, h, a0, a1 with
      | [x], _, a0, a1 =>
        rw [List.mem_singleton] at a0 a1
        omega
    · omega

abbrev Rw := List Int × List Int
def dR (r : Rw) : PyData := .tuple [dT r.1, dT r.2]
def lastI (p : List Int) : Int := p.getLastD 0
/-- edges with their numbers -/
def nums (es : List Ed) : List (Int × Ed) := (List.range es.length).zipWith (fun (i : Nat) e => ((i : Int), e)) es
def pfStep (ms path used : List Int) (rec : List Int → List Int → List Rw) (x : Int × Ed) : List Rw :=
  if (lastI path = x.2.1 ∨ lastI path = x.2.2) ∧ x.1 ∉ used ∧ x.2.1 + x.2.2 - lastI path ∉ path then
    (if x.2.1 + x.2.2 - lastI path ∈ ms then [(path ++ [x.2.1 + x.2.2 - lastI path], used ++ [x.1])] else rec (path ++ [x.2.1 + x.2.2 - lastI path]) (used ++ [x.1]))
  else []
def pf (es : List Ed) (ms : List Int) : Nat → List Int → List Int → List Rw
  | 0, _, _ => []
  | k + 1, path, used => (nums es).flatMap (pfStep ms path used (pf es ms k))
theorem nums_len (es : List Ed) : (nums es).length = es.length := by
  unfold nums
  rw [List.length_zipWith, List.length_range, Nat.min_self]
theorem nums_at {es : List Ed} {i : Nat} {x : Int × Ed} (h : (nums es)[i]? = some x) : x.1 = i ∧ es[i]? = some x.2 := by
  unfold nums at h
  rw [List.getElem?_zipWith] at h
  cases q : es[i]? with
  | none => rw [q] at h; cases q2 : (List.range es.length)[i]? <;> rw [q2] at h <;> cases h
  | some e =>
    have hi : i < es.length := (List.getElem?_eq_some_iff.mp q).1
    rw [q, List.getElem?_range hi] at h
    cases h
    exact ⟨rfl, rfl⟩
theorem nums_snd (es : List Ed) : (nums es).map (·.2) = es := by
  apply List.ext_getElem?
  intro i
  rw [List.getElem?_map]
  cases h : (nums es)[i]? with
  | none =>
    rw [List.getElem?_eq_none_iff, nums_len] at h
    rw [List.getElem?_eq_none h]
    rfl
  | some x => rw [(nums_at h).2]; rfl
theorem mem_nums {es : List Ed} {x : Int × Ed} : x ∈ nums es ↔ ∃ i : Nat, x.1 = i ∧ es[i]? = some x.2 := by
  constructor
  · intro h
    obtain ⟨i, hi⟩ := List.mem_iff_getElem?.mp h
    exact ⟨i, nums_at hi⟩
  · rintro ⟨i, h1, h2⟩
    have hi : i < es.length := (List.getElem?_eq_some_iff.mp h2).1
    refine List.mem_iff_getElem?.mpr ⟨i, ?_⟩
    unfold nums
    rw [List.getElem?_zipWith, h2, List.getElem?_range hi]
    simp [← h1]
theorem enum_nums (es : List Ed) : (List.range (es.map dE).length).zipWith (fun (i : Nat) d => pr2 (.int (i : Int)) d) (es.map dE) = (nums es).map fun x => pr2 (.int x.1) (dE x.2) := by
  apply List.ext_getElem?
  intro i
  rw [List.getElem?_map]
  unfold nums
  rw [List.getElem?_zipWith, List.getElem?_zipWith, List.getElem?_map, List.length_map]
  cases q : es[i]? with
  | none => cases q2 : (List.range es.length)[i]? <;> simp
  | some e =>
    have hi : i < es.length := (List.getElem?_eq_some_iff.mp q).1
    rw [List.getElem?_range hi]
    simp
theorem at_last {p : List Int} (h : p ≠ []) : ixD (dT p) (.int (-1)) = .ok (.int (lastI p)) := by
  obtain ⟨q, x, rfl⟩ : ∃ q x, p = q ++ [x] := ⟨p.dropLast, p.getLast h, (List.dropLast_concat_getLast h).symm⟩
  unfold dT lastI
  rw [ixD_t, List.map_append, List.map_cons, List.map_nil, DL.atI_last]
  simp
/-- a path so far: different vertices, below n -/
structure Pth (n : Int) (p : List Int) : Prop where
  ne : p ≠ []
  nd : p.Nodup
  rg : ∀ v ∈ p, 0 ≤ v ∧ v < n
theorem Pth.len {n : Int} {p : List Int} (hn : 0 ≤ n) (h : Pth n p) : p.length ≤ n.toNat := by
  have := nodup_len h.nd (ys := irange 0 n) fun v hv => mem_irange.mpr (by have := h.rg v hv; omega)
  rw [len_irange] at this
  omega
theorem Pth.add {n : Int} {p : List Int} {v : Int} (h : Pth n p) (hv : v ∉ p) (hr : 0 ≤ v ∧ v < n) : Pth n (p ++ [v]) := by
  refine ⟨by simp, ?_, fun w hw => ?_⟩
  · rw [List.nodup_append]
    refine ⟨h.nd, by simp, fun a ha b hb e => ?_⟩
    rw [List.mem_singleton] at hb
    subst hb e
    exact hv ha
  · rcases List.mem_append.mp hw with z | z
    · exact h.rg w z
    · rw [List.mem_singleton] at z; subst z; exact hr
theorem other_rg {n : Int} {es : List Ed} (hg : VG n es) {x : Int × Ed} (hx : x ∈ nums es) {l : Int} (hl : l = x.2.1 ∨ l = x.2.2) : 0 ≤ x.2.1 + x.2.2 - l ∧ x.2.1 + x.2.2 - l < n := by
  obtain ⟨i, _, h⟩ := mem_nums.mp hx
  have := hg.ed x.2 (List.mem_of_getElem? h)
  rcases hl with e | e <;> rw [e] <;> omega
theorem pf_len {n : Int} {es : List Ed} (hg : VG n es) (ms : List Int) : ∀ (k : Nat) (path used : List Int), Pth n path → (pf es ms k path used).length ≤ 9 ^ (6 - path.length)
  | 0, path, _, _ => Nat.zero_le _
  | k + 1, path, used, hp => by
    have hlo := hg.lo
    have hhi := hg.hi
    have hpl := hp.len (by omega)
    have key : ∀ x ∈ nums es, (pfStep ms path used (pf es ms k) x).length ≤ 9 ^ (5 - path.length) ∧ (pfStep ms path used (pf es ms k) x ≠ [] → path.length < 6) := fun x hx => by
      unfold pfStep
      split
      · rename_i h
        have h3 := other_rg hg hx h.1
        have pa := hp.add h.2.2 h3
        have pl := pa.len (by omega)
        rw [List.length_append, List.length_singleton] at pl
        split
        · exact ⟨by rw [List.length_singleton]; exact Nat.one_le_pow _ _ (by omega), fun _ => by omega⟩
        · have ih := pf_len hg ms k _ (used ++ [x.1]) pa
          rw [List.length_append, List.length_singleton] at ih
          refine ⟨?_, fun _ => by omega⟩
          have e : 6 - (path.length + 1) = 5 - path.length := by omega
          rw [e] at ih
          exact ih
      · exact ⟨Nat.zero_le _, fun h => absurd rfl h⟩
    have tot : ∀ (l : List (Int × Ed)), (∀ x ∈ l, x ∈ nums es) → (l.flatMap (pfStep ms path used (pf es ms k))).length ≤ l.length * 9 ^ (5 - path.length) := by
      intro l
      induction l with
      | nil => intro _; simp
      | cons x l ih =>
        intro h
        rw [List.flatMap_cons, List.length_append, List.length_cons, Nat.succ_mul]
        have a := (key x (h x (by simp))).1
        have b := ih fun y hy => h y (List.mem_cons_of_mem _ hy)
        omega
    have t := tot (nums es) fun x hx => hx
    rw [nums_len] at t
    have h9 := hg.len
    show ((nums es).flatMap (pfStep ms path used (pf es ms k))).length ≤ _
    by_cases h6 : path.length < 6
    · have e : 9 ^ (6 - path.length) = 9 * 9 ^ (5 - path.length) := by
        have e1 : 6 - path.length = (5 - path.length) + 1 := by omega
        rw [e1, Nat.pow_succ, Nat.mul_comm]
      rw [e]
      exact Nat.le_trans t (Nat.mul_le_mul_right _ h9)
    · have e : (nums es).flatMap (pfStep ms path used (pf es ms k)) = [] := by
        rw [List.flatMap_eq_nil_iff]
        intro x hx
        cases q : pfStep ms path used (pf es ms k) x with
        | nil => rfl
        | cons a b => exact absurd ((key x hx).2 (by rw [q]; simp)) h6
      rw [e]
      exact Nat.zero_le _
theorem flatMap_take {α β : Type} (f : α → List β) {xs : List α} {i : Nat} {x : α} (h : xs[i]? = some x) : (xs.take (i + 1)).flatMap f = (xs.take i).flatMap f ++ f x := by
  rw [List.take_add_one, h, List.flatMap_append]
  simp
theorem f_paths_from {n : Int} {es : List Ed} (hg : VG n es) {ms : List Int} : ∀ (k : Nat) (path used : List Int), Pth n path → n.toNat < k + path.length → used.length < path.length + 1 → F_paths_fromR k [dG n es, dT ms, dT path, dT used] = .ok (.list ((pf es ms k path used).map dR))
  | 0, path, used, hp, hk, hu => by
    have := hp.len (by have := hg.lo; omega)
    omega
  | k + 1, path, used, hp, hk, hu => by
    have hlo := hg.lo
    have hhi := hg.hi
    have hpl := hp.len (by omega)
    have whole := pf_len hg ms (k + 1) path used hp
    have p5 : 9 ^ (6 - path.length) ≤ 9 ^ 5 := by
      have : 0 < path.length := List.length_pos_iff.mpr hp.ne
      exact Nat.pow_le_pow_right (by omega) (by omega)
    have big : ∀ i, (((nums es).take i).flatMap (pfStep ms path used (pf es ms k))).length ≤ 59049 := fun i => by
      have e : pf es ms (k + 1) path used = ((nums es).take i).flatMap (pfStep ms path used (pf es ms k)) ++ ((nums es).drop i).flatMap (pfStep ms path used (pf es ms k)) := by
        rw [← List.flatMap_append, List.take_append_drop]
        rfl
      rw [e, List.length_append] at whole
      omega
    obtain ⟨ρ', e, I⟩ := loop_from (enc := fun x : Int × Ed => pr2 (.int x.1) (dE x.2)) (g := gN2 5 6) (S := L_paths_from_1 (F_paths_fromR k)) (fun i ρ => ∃ t5 t6 t7 : Sl, ρ = [.val (dG n es), .val (dT ms), .val (dT path), .val (dT used), .own ((((nums es).take i).flatMap (pfStep ms path used (pf es ms k))).map dR), t5, t6, t7])
      (xs := nums es) (ρ := [.val (dG n es), .val (dT ms), .val (dT path), .val (dT used), .own [], .no, .no, .no]) ⟨.no, .no, .no, rfl⟩ (fun i x ρ hx ⟨t5, t6, t7, e⟩ => by
        subst e
        have bg := big (i + 1)
        have bg0 := big i
        rw [flatMap_take _ hx] at bg ⊢
        have hxm := List.mem_of_getElem? hx
        generalize ((nums es).take i).flatMap (pfStep ms path used (pf es ms k)) = fs at bg bg0
        obtain ⟨j, ed⟩ := x
        obtain ⟨l, hl⟩ : ∃ l, l = lastI path := ⟨_, rfl⟩
        obtain ⟨v, hv⟩ : ∃ v, v = ed.1 + ed.2 - l := ⟨_, rfl⟩
        have al := at_last hp.ne
        rw [← hl] at al
        have s1 : szOk 1 = .ok () := szOk_lt (by omega)
        have s2 : szOk 2 = .ok () := szOk_lt (by omega)
        have s3 : szOk (path.length + 1) = .ok () := szOk_lt (by omega)
        have s4 : szOk (used.length + 1) = .ok () := szOk_lt (by omega)
        have n1 : niD (.int j) (dT used) = .ok (.bool !decide (j ∈ used)) := niT j used
        have n2 : inD (.int v) (dT ms) = .ok (.bool (decide (v ∈ ms))) := inT v ms
        have n3 : niD (.int v) (dT path) = .ok (.bool !decide (v ∈ path)) := niT v path
        have n4 : niD (.int v) (dT ms) = .ok (.bool !decide (v ∈ ms)) := niT v ms
        have a1 : addD (dT path) (.tuple [.int v]) = .ok (dT (path ++ [v])) := by simp [dT, s3]
        have a2 : addD (dT used) (.tuple [.int j]) = .ok (dT (used ++ [j])) := by simp [dT, s4]
        unfold pfStep at bg ⊢
        simp only [← hl, ← hv] at bg ⊢
        by_cases c1 : l = ed.1 ∨ l = ed.2
        · by_cases c2 : j ∈ used
          · refine ⟨[.val (dG n es), .val (dT ms), .val (dT path), .val (dT used), .own (fs.map dR), .val (.int j), .val (dE ed), t7], ?_, _, _, _, by rw [if_neg (by simp [c2]), List.append_nil]⟩
            simp [L_paths_from_1, al, c1, n1, c2]
          · by_cases c3 : v ∈ path
            · refine ⟨[.val (dG n es), .val (dT ms), .val (dT path), .val (dT used), .own (fs.map dR), .val (.int j), .val (dE ed), .val (.int v)], ?_, _, _, _, by rw [if_neg (by simp [c3]), List.append_nil]⟩
              by_cases c4 : v ∈ ms
              · simp [L_paths_from_1, al, c1, n1, c2, ← hv, n2, n3, n4, c3, c4]
              · simp [L_paths_from_1, al, c1, n1, c2, ← hv, n2, n3, n4, c3, c4]
            · have cond : (l = ed.1 ∨ l = ed.2) ∧ j ∉ used ∧ v ∉ path := ⟨c1, c2, c3⟩
              rw [if_pos cond] at bg ⊢
              by_cases c4 : v ∈ ms
              · rw [if_pos c4] at bg ⊢
                refine ⟨[.val (dG n es), .val (dT ms), .val (dT path), .val (dT used), .own ((fs ++ [(path ++ [v], used ++ [j])]).map dR), .val (.int j), .val (dE ed), .val (.int v)], ?_, _, _, _, rfl⟩
                have lt : (fs.map dR).length < 16000000 := by rw [List.length_map]; omega
                simp [L_paths_from_1, al, c1, n1, c2, ← hv, n2, n3, n4, c3, c4, s1, s2, a1, a2, appR_own lt, dR]
              · rw [if_neg c4] at bg ⊢
                have rg := other_rg hg hxm (l := l) c1
                have hpa := hp.add c3 (by rw [hv]; exact rg)
                have rc := f_paths_from hg (ms := ms) k (path ++ [v]) (used ++ [j]) hpa (by rw [List.length_append, List.length_singleton]; omega) (by rw [List.length_append, List.length_append, List.length_singleton, List.length_singleton]; omega)
                refine ⟨[.val (dG n es), .val (dT ms), .val (dT path), .val (dT used), .own ((fs ++ pf es ms k (path ++ [v]) (used ++ [j])).map dR), .val (.int j), .val (dE ed), .val (.int v)], ?_, _, _, _, rfl⟩
                have lt : (fs.map dR).length + ((pf es ms k (path ++ [v]) (used ++ [j])).map dR).length ≤ 16000000 := by
                  rw [List.length_append] at bg
                  rw [List.length_map, List.length_map]; omega
                simp [L_paths_from_1, al, c1, n1, c2, ← hv, n2, n3, n4, c3, c4, s1, a1, a2, rc, extR_own lt]
        · refine ⟨[.val (dG n es), .val (dT ms), .val (dT path), .val (dT used), .own (fs.map dR), .val (.int j), .val (dE ed), t7], ?_, _, _, _, by rw [if_neg (by simp [c1]), List.append_nil]⟩
          simp [L_paths_from_1, al, c1])
    obtain ⟨t5, t6, t7, he⟩ := I
    subst he
    rw [List.take_length] at e
    rw [u_paths_from, S_paths_from]
    have g1 : ixD (dG n es) (.int 1) = .ok (.tuple (es.map dE)) := by simp [dG, dEs]
    have en : enumD [.tuple (es.map dE)] = .ok ((nums es).map fun x => pr2 (.int x.1) (dE x.2)) := by rw [← enum_nums]; rfl
    simp [g1, en, e, pf]

theorem pf_row {es : List Ed} {ms : List Int} : ∀ {k : Nat} {path used : List Int} {r : Rw}, r ∈ pf es ms k path used → r.1 ≠ []
  | k + 1, path, used, r, h => by
    obtain ⟨x, hx, h⟩ := List.mem_flatMap.mp h
    unfold pfStep at h
    split at h
    · split at h
      · rw [List.mem_singleton] at h
        rw [h]
        simp
      · exact pf_row h
    · cases h
theorem dR_ok (xs : List Rw) : ∀ x ∈ xs, (dR x).plain = true ∧ (dR x).depth ≤ 2 := fun x _ => by
  obtain ⟨h1, h2⟩ := dT_ok [x.1] x.1 (by simp)
  obtain ⟨h3, h4⟩ := dT_ok [x.2] x.2 (by simp)
  refine ⟨?_, ?_⟩
  · simp [dR, PyData.plain, PyData.plainAll, h1, h3]
  · simp [dR, PyData.depth, PyData.depthAll]
    omega
theorem alike_dR (x y : Rw) : PySem.W.alike (dR x) (dR y) = true := by
  have h := alike_dT x.1 y.1
  have h' := alike_dT x.2 y.2
  simp [dR, PySem.W.alike, PySem.W.alikeAll, h, h']
def sortR (xs : List Rw) : List Rw := xs.mergeSort fun x y => !PySem.W.dataLt (dR y) (dR x)
theorem sortR_perm (xs : List Rw) : (sortR xs).Perm xs := List.mergeSort_perm xs _
theorem sortedD_dR (xs : List Rw) : sortedD (.list (xs.map dR)) = .ok (.list ((sortR xs).map dR)) := by
  have ok : sortB (xs.map dR) = true := by
    unfold sortB
    have h1 : PyData.plainAll (xs.map dR) = true := plainAll_map fun x hx => (dR_ok xs x hx).1
    have h2 : PyData.depthAll (xs.map dR) ≤ 2 := depthAll_map fun x hx => (dR_ok xs x hx).2
    have h3 : (xs.map dR).all tup1 = true := by simp [tup1, dR]
    have h4 : decide (PyData.depthAll (xs.map dR) ≤ 64) = true := decide_eq_true (by omega)
    rw [h1, alikeB_map alike_dR, h3, h4]
    simp
  show (if sortB (xs.map dR) = true then _ else _) = _
  rw [if_pos ok, srt_map (lt := fun x y => PySem.W.dataLt (dR x) (dR y)) fun _ _ => rfl]
  rfl
def evM (es : List Ed) (ms : List Int) (m : Int) : List Rw := (pf es ms 11 [m] []).filter fun r => decide (m < lastI r.1)
def evN (es : List Ed) (ms : List Int) : List Rw := sortR (ms.flatMap (evM es ms))
theorem VM.few {n : Int} {ms : List Int} (hn : 0 ≤ n ∧ n ≤ 6) (h : VM n ms) : ms.length ≤ 6 := by
  have := nodup_len (asc_nodup h.up) (ys := irange 0 n) fun m hm => mem_irange.mpr (by have := h.rg m hm; omega)
  rw [len_irange] at this
  omega
theorem ev_few {n : Int} {es : List Ed} (hg : VG n es) (ms : List Int) : ∀ l : List Int, (∀ m ∈ l, 0 ≤ m ∧ m ≤ n - 1) → (l.flatMap (evM es ms)).length ≤ l.length * 59049
  | [], _ => by simp
  | m :: l, h => by
    rw [List.flatMap_cons, List.length_append, List.length_cons, Nat.succ_mul]
    have ih := ev_few hg ms l fun x hx => h x (List.mem_cons_of_mem _ hx)
    have hm := h m (by simp)
    have a := pf_len hg ms 11 [m] [] ⟨by simp, by simp, fun v hv => by rw [List.mem_singleton] at hv; omega⟩
    have b := List.length_filter_le (fun r : Rw => decide (m < lastI r.1)) (pf es ms 11 [m] [])
    have c : (evM es ms m).length ≤ (pf es ms 11 [m] []).length := b
    have e : 9 ^ (6 - [m].length) = 59049 := by simp
    rw [e] at a
    omega
theorem f_every_path {n : Int} {es : List Ed} (hg : VG n es) {ms : List Int} (hm : VM n ms) : F_every_path [dG n es, dT ms] = .ok (.list ((evN es ms).map dR)) := by
  have hlo := hg.lo
  have hhi := hg.hi
  have few := hm.few (by omega)
  have s0 : szOk 0 = .ok () := szOk_lt (by omega)
  have s1 : szOk 1 = .ok () := szOk_lt (by omega)
  have s2 : szOk 2 = .ok () := szOk_lt (by omega)
  obtain ⟨ρ', e, I⟩ := loop_from (enc := PyData.int) (g := gN 3) (S := L_every_path_1) (fun i ρ => ∃ t3 t4 : Sl, ρ = [.val (dG n es), .val (dT ms), .own (((ms.take i).flatMap (evM es ms)).map dR), t3, t4, .no, .no])
    (xs := ms) (ρ := [.val (dG n es), .val (dT ms), .own [], .no, .no, .no, .no]) ⟨.no, .no, rfl⟩ (fun i x ρ hx ⟨t3, t4, e⟩ => by
      subst e
      have hxm := List.mem_of_getElem? hx
      have rg := hm.rg x hxm
      have b1 := ev_few hg ms (ms.take (i + 1)) fun m hmm => hm.rg m (List.mem_of_mem_take hmm)
      have b2 : (ms.take (i + 1)).length ≤ 6 := by rw [List.length_take]; omega
      rw [flatMap_take _ hx] at b1 ⊢
      generalize (ms.take i).flatMap (evM es ms) = fs at b1
      have pfe : F_paths_from [dG n es, dT ms, .tuple [.int x], .tuple []] = .ok (.list ((pf es ms 11 [x] []).map dR)) :=
        f_paths_from hg (ms := ms) 11 [x] [] ⟨by simp, by simp, fun v hv => by rw [List.mem_singleton] at hv; omega⟩ (by simp; omega) (by simp)
      have c : ∀ t5 : Sl, comp (gN2 5 6) (tst (e2 gtD (e2 ixD (eVarS 5) (eNeg (eC (.int 1)))) (eVarS 3))) (eTup (eCons (eVar 5) (eCons (eVar 6) eNil))) [.val (dG n es), .val (dT ms), .own (fs.map dR), .val (.int x), t5, .no, .no] ((pf es ms 11 [x] []).map dR) = .ok ((evM es ms x).map dR) := fun t5 =>
        comp_is (enc := dR) (fun r => decide (x < lastI r.1)) dR fun r hr => by
          obtain ⟨p, u⟩ := r
          have al := at_last (pf_row hr)
          exact ⟨_, rfl, by simp [al], fun _ => by simp [s2, dR]⟩
      refine ⟨[.val (dG n es), .val (dT ms), .own ((fs ++ evM es ms x).map dR), .val (.int x), .val (.list ((pf es ms 11 [x] []).map dR)), .no, .no], ?_, _, _, rfl⟩
      have lt : (fs.map dR).length + ((evM es ms x).map dR).length ≤ 16000000 := by
        rw [List.length_append] at b1
        rw [List.length_map, List.length_map]
        omega
      simp [L_every_path_1, s0, s1, pfe, c, extR_own lt])
  obtain ⟨t3, t4, he⟩ := I
  subst he
  rw [List.take_length] at e
  rw [u_every_path, S_every_path]
  have sq : seqD (dT ms) = .ok (ms.map .int) := by simp [dT]
  simp [sq, e, sortedD_dR, evN]
def dC (c : List (List Int)) : PyData := .tuple (c.map dT)
def disj (u v : List Int) : Bool := u.all fun i => !decide (i ∈ v)
def pkLoop (rec : List Rw → List Int → List (List Int) → List (List Int) → List (List Int)) (used : List Int) (chosen : List (List Int)) : List Rw → List (List Int) → List (List Int)
  | [], best => best
  | r :: rem, best => if chosen.length + (rem.length + 1) ≤ best.length then best else pkLoop rec used chosen rem (if disj r.2 used = true then rec rem (used ++ r.2) (chosen ++ [r.1]) best else best)
def pk : Nat → List Rw → List Int → List (List Int) → List (List Int) → List (List Int)
  | 0, _, _, _, best => best
  | k + 1, rem, used, chosen, best => pkLoop (pk k) used chosen rem (if best.length < chosen.length then chosen else best)
/-- a row's numbers: some, different, below N -/
structure RwOk (N : Int) (r : Rw) : Prop where
  ne : r.2 ≠ []
  nd : r.2.Nodup
  rg : ∀ i ∈ r.2, 0 ≤ i ∧ i < N
theorem disj_iff {u v : List Int} : disj u v = true ↔ ∀ i ∈ u, i ∉ v := by
  unfold disj
  simp
theorem irange_cons {a b : Int} (h : a < b) : irange a b = a :: irange (a + 1) b := by
  unfold irange
  have e : (b - a).toNat = (b - (a + 1)).toNat + 1 := by omega
  rw [e, List.range_succ_eq_map, List.map_cons, List.map_map]
  congr 1
  · omega
  · apply List.map_congr_left
    intro i _
    simp
    omega
theorem irange_nil {a b : Int} (h : b ≤ a) : irange a b = [] := by
  unfold irange
  have e : (b - a).toNat = 0 := by omega
  rw [e]
  rfl
theorem f_pack {N : Int} (hN : N ≤ 9) {rows : List Rw} (hz : rows.length ≤ 1000000) (hr : ∀ r ∈ rows, RwOk N r) : ∀ (k : Nat) (pre rem : List Rw) (used : List Int) (chosen best : List (List Int)), rows = pre ++ rem → used.Nodup → (∀ i ∈ used, 0 ≤ i ∧ i < N) → chosen.length ≤ used.length → 9 < k + used.length →
    F_packR k [.list (rows.map dR), .int (pre.length : Int), dT used, dC chosen] [dC best] = .ok [dC (pk k rem used chosen best)]
  | 0, pre, rem, used, chosen, best, e, nd, rg, hc, hk => by
    have := nodup_len nd (ys := irange 0 N) fun i hi => mem_irange.mpr (rg i hi)
    rw [len_irange] at this
    omega
  | k + 1, pre, rem, used, chosen, best, e, nd, rg, hc, hk => by
    have ul := nodup_len nd (ys := irange 0 N) fun i hi => mem_irange.mpr (rg i hi)
    rw [len_irange] at ul
    have s1 : szOk 1 = .ok () := szOk_lt (by omega)
    have lenC : ∀ c : List (List Int), lenD (dC c) = .ok (.int c.length) := fun c => by simp [dC]
    obtain ⟨pl, hpl⟩ : ∃ pl : Int, pl = pre.length := ⟨_, rfl⟩
    have loopJ : ∀ (rem pre : List Rw) (best : List (List Int)) (t5 t6 t7 : Sl), rows = pre ++ rem →
        outJ 4 (jLoop (gN 5) (L_pack_1 (F_packR k)) ((irange pre.length rows.length).map .int) [.val (.list (rows.map dR)), .val (.int pl), .val (dT used), .val (dC chosen), .own [dC best], t5, t6, t7, .no]) = .ok [dC (pkLoop (pk k) used chosen rem best)] := by
      intro rem
      induction rem with
      | nil =>
        intro pre best t5 t6 t7 e
        rw [List.append_nil] at e
        rw [← e, irange_nil (Int.le_refl _)]
        rfl
      | cons r rem ih =>
        intro pre best t5 t6 t7 e
        have hlen : rows.length = pre.length + (rem.length + 1) := by rw [e, List.length_append, List.length_cons]
        have hrm : r ∈ rows := by rw [e]; simp
        obtain ⟨rne, rnd, rrg⟩ := hr r hrm
        rw [irange_cons (by omega), List.map_cons, jLoop]
        simp only [ev_gN]
        have ix : ixD (.list (rows.map dR)) (.int (pre.length : Int)) = .ok (dR r) := by
          rw [ixD_l, DL.atI_nat, List.getElem?_map, e, List.getElem?_append_right (Nat.le_refl _), Nat.sub_self]
          rfl
        simp only [ixD_l] at ix
        have e' : rows = (pre ++ [r]) ++ rem := by rw [e, List.append_assoc]; rfl
        have epl : (((pre ++ [r]).length : Nat) : Int) = (pre.length : Int) + 1 := by rw [List.length_append, List.length_singleton]; omega
        have ih := fun b a5 a6 a7 => ih (pre ++ [r]) b a5 a6 a7 e'
        rw [epl] at ih
        have sq : seqD (dT r.2) = .ok (r.2.map .int) := by simp [dT]
        have cmp : ∀ (a4 a5 a6 : Sl), comp (gN 8) (tst (e2 inD (eVarS 8) (eVarS 2))) (eVar 8) [.val (.list (rows.map dR)), .val (.int pl), .val (dT used), .val (dC chosen), a4, a5, a6, .val (dT r.2), .no] (r.2.map .int) = .ok ((r.2.filter fun i => decide (i ∈ used)).map .int) := fun a4 a5 a6 =>
          comp_is (enc := PyData.int) _ PyData.int fun i _ => ⟨_, rfl, by simp [dT], fun _ => by simp⟩
        have emp : ((r.2.filter fun i => decide (i ∈ used)).map PyData.int).isEmpty = disj r.2 used := by rw [List.isEmpty_map, filter_none]; rfl
        rw [pkLoop]
        by_cases c1 : chosen.length + (rem.length + 1) ≤ best.length
        · rw [if_pos c1]
          have c1' : (chosen.length : Int) + (rows.length : Int) - (pre.length : Int) ≤ (best.length : Int) := by omega
          simp [L_pack_1, ix, dR, lenC, c1', outJ]
        · rw [if_neg c1]
          have c1' : ¬ (chosen.length : Int) + (rows.length : Int) - (pre.length : Int) ≤ (best.length : Int) := by omega
          cases c2 : disj r.2 used with
          | false =>
            simp [L_pack_1, ix, dR, lenC, c1', sq, cmp, emp, c2]
            exact ih best _ _ _
          | true =>
            have dj := disj_iff.mp c2
            have nd2 : (used ++ r.2).Nodup := by
              rw [List.nodup_append]
              exact ⟨nd, rnd, fun a ha b hb eab => dj b hb (eab ▸ ha)⟩
            have rg2 : ∀ i ∈ used ++ r.2, 0 ≤ i ∧ i < N := fun i hi => by
              rcases List.mem_append.mp hi with z | z
              · exact rg i z
              · exact rrg i z
            have ul2 := nodup_len nd2 (ys := irange 0 N) fun i hi => mem_irange.mpr (rg2 i hi)
            rw [len_irange, List.length_append] at ul2
            have rpos : 0 < r.2.length := List.length_pos_iff.mpr rne
            have rc := f_pack hN hz hr k (pre ++ [r]) rem (used ++ r.2) (chosen ++ [r.1]) best e' nd2 rg2 (by rw [List.length_append, List.length_append, List.length_singleton]; omega) (by rw [List.length_append]; omega)
            rw [epl] at rc
            have a1 : addD (dT used) (dT r.2) = .ok (dT (used ++ r.2)) := by simp [dT, szOk_lt (show used.length + r.2.length ≤ 16000000 by omega)]
            have a2 : addD (dC chosen) (.tuple [dT r.1]) = .ok (dC (chosen ++ [r.1])) := by simp [dC, szOk_lt (show chosen.length + 1 ≤ 16000000 by omega)]
            simp [L_pack_1, ix, dR, lenC, c1', sq, cmp, emp, c2, s1, a1, a2, rc]
            exact ih _ _ _ _
    rw [u_pack, S_pack]
    have hlr : rows.length = pre.length + rem.length := by rw [e, List.length_append]
    have r2 : rng2D [.int (pre.length : Int), .int (rows.length : Int)] = .ok ((irange pre.length rows.length).map .int) := rng2_big (by omega) (by omega) (by omega) (by omega)
    have go := fun b => loopJ rem pre b .no .no .no e
    rw [hpl] at go
    rw [pk]
    by_cases c : best.length < chosen.length
    · have c' : (best.length : Int) < (chosen.length : Int) := by omega
      rw [if_pos c]
      have g := go chosen
      simp [lenC, c', r2]
      exact g
    · have c' : ¬ (best.length : Int) < (chosen.length : Int) := by omega
      rw [if_neg c]
      have g := go best
      simp [lenC, c', r2]
      exact g
/-- the numbers of a row of pf, besides those that were used -/
theorem pf_num {es : List Ed} {ms : List Int} : ∀ {k : Nat} {path used : List Int} {r : Rw}, r ∈ pf es ms k path used → used.Nodup → (∀ i ∈ used, 0 ≤ i ∧ i < es.length) → r.2.Nodup ∧ (∀ i ∈ r.2, 0 ≤ i ∧ i < es.length) ∧ used.length < r.2.length
  | k + 1, path, used, r, h, nd, rg => by
    obtain ⟨x, hx, h⟩ := List.mem_flatMap.mp h
    obtain ⟨j, hj, hjj⟩ := mem_nums.mp hx
    have hjl : j < es.length := (List.getElem?_eq_some_iff.mp hjj).1
    unfold pfStep at h
    split at h
    · rename_i c
      have nd2 : (used ++ [x.1]).Nodup := by
        rw [List.nodup_append]
        refine ⟨nd, by simp, fun a ha b hb e => ?_⟩
        rw [List.mem_singleton] at hb
        subst hb e
        exact c.2.1 ha
      have rg2 : ∀ i ∈ used ++ [x.1], 0 ≤ i ∧ i < es.length := fun i hi => by
        rcases List.mem_append.mp hi with z | z
        · exact rg i z
        · rw [List.mem_singleton] at z
          omega
      split at h
      · rw [List.mem_singleton] at h
        rw [h]
        exact ⟨nd2, rg2, by simp⟩
      · obtain ⟨a, b, c⟩ := pf_num h nd2 rg2
        refine ⟨a, b, ?_⟩
        rw [List.length_append, List.length_singleton] at c
        omega
    · cases h
theorem ev_mem {es : List Ed} {ms : List Int} {r : Rw} : r ∈ evN es ms ↔ ∃ m ∈ ms, r ∈ pf es ms 11 [m] [] ∧ m < lastI r.1 := by
  unfold evN
  rw [(sortR_perm _).mem_iff, List.mem_flatMap]
  simp only [evM, List.mem_filter, decide_eq_true_eq]
theorem ev_ok {es : List Ed} {ms : List Int} {r : Rw} (h : r ∈ evN es ms) : RwOk es.length r := by
  obtain ⟨m, _, h, _⟩ := ev_mem.mp h
  obtain ⟨a, b, c⟩ := pf_num h (by simp) (fun _ h => nomatch h)
  exact ⟨fun e => by rw [e] at c; simp at c, a, b⟩
def sysN (es : List Ed) (ms : List Int) : List (List Int) := pk 11 (evN es ms) [] [] []
theorem f_system_of {n : Int} {es : List Ed} (hg : VG n es) {ms : List Int} (hm : VM n ms) : F_system_of [dG n es, dT ms] = .ok (dC (sysN es ms)) := by
  have hlo := hg.lo
  have hhi := hg.hi
  have few := hm.few (by omega)
  have s0 : szOk 0 = .ok () := szOk_lt (by omega)
  have s1 : szOk 1 = .ok () := szOk_lt (by omega)
  have lr : (evN es ms).length ≤ 1000000 := by
    unfold evN
    rw [(sortR_perm _).length_eq]
    have := ev_few hg ms ms hm.rg
    omega
  have pe := f_pack (N := es.length) (by have := hg.len; omega) (rows := evN es ms) lr (fun r h => ev_ok h) 11 [] (evN es ms) [] [] [] rfl (by simp) (fun _ h => nomatch h) (by simp) (by simp)
  have pe : F_pack [.list ((evN es ms).map dR), .int 0, .tuple [], .tuple []] [.tuple []] = .ok [dC (sysN es ms)] := pe
  rw [u_system_of, S_system_of]
  simp [f_every_path hg hm, s0, s1, callO_own pe]
theorem f_system {n : Int} {es : List Ed} (hg : VG n es) {ms : List Int} (hm : VM n ms) : F_system [dG n es, dT ms] = .ok (dC (sysN es ms)) := by
  rw [u_system, S_system]
  simp [f_check_marks hg hm, f_system_of hg hm]

def DJ (a b : Rw) : Prop := ∀ i ∈ a.2, i ∉ b.2
theorem DJ.symm {a b : Rw} (h : DJ a b) : DJ b a := fun i hb ha => h i ha hb
theorem pkLoop_spec {rec : List Rw → List Int → List (List Int) → List (List Int) → List (List Int)} {used : List Int} {chosen : List (List Int)} :
    ∀ (rem : List Rw) (best : List (List Int)), chosen.length ≤ best.length →
      (∀ (pre : List Rw) (r : Rw) (rem' : List Rw) (best : List (List Int)), rem = pre ++ r :: rem' → disj r.2 used = true → best.length ≤ (rec rem' (used ++ r.2) (chosen ++ [r.1]) best).length ∧
        (∀ s : List Rw, s.Sublist rem' → s.Pairwise DJ → (∀ x ∈ s, disj x.2 (used ++ r.2) = true) → chosen.length + 1 + s.length ≤ (rec rem' (used ++ r.2) (chosen ++ [r.1]) best).length) ∧
        (rec rem' (used ++ r.2) (chosen ++ [r.1]) best = best ∨ ∃ s : List Rw, s.Sublist rem' ∧ s.Pairwise DJ ∧ (∀ x ∈ s, disj x.2 (used ++ r.2) = true) ∧ rec rem' (used ++ r.2) (chosen ++ [r.1]) best = chosen ++ [r.1] ++ s.map (·.1))) →
      best.length ≤ (pkLoop rec used chosen rem best).length ∧
      (∀ s : List Rw, s.Sublist rem → s.Pairwise DJ → (∀ x ∈ s, disj x.2 used = true) → chosen.length + s.length ≤ (pkLoop rec used chosen rem best).length) ∧
      (pkLoop rec used chosen rem best = best ∨ ∃ s : List Rw, s.Sublist rem ∧ s.Pairwise DJ ∧ (∀ x ∈ s, disj x.2 used = true) ∧ pkLoop rec used chosen rem best = chosen ++ s.map (·.1))
  | [], best, hb, _ => by
    refine ⟨Nat.le_refl _, fun s hs _ _ => ?_, .inl rfl⟩
    rw [List.sublist_nil.mp hs]
    exact hb
  | r :: rem, best, hb, hrec => by
    rw [pkLoop]
    by_cases c : chosen.length + (rem.length + 1) ≤ best.length
    · rw [if_pos c]
      refine ⟨Nat.le_refl _, fun s hs _ _ => ?_, .inl rfl⟩
      have := hs.length_le
      rw [List.length_cons] at this
      omega
    · rw [if_neg c]
      have hrec' : ∀ (pre : List Rw) (x : Rw) (rem' : List Rw) (best : List (List Int)), rem = pre ++ x :: rem' → _ := fun pre x rem' best e => hrec (r :: pre) x rem' best (by rw [e]; rfl)
      cases dj : disj r.2 used with
      | false =>
        simp only [Bool.false_eq_true, if_false]
        obtain ⟨h1, h2, h3⟩ := pkLoop_spec rem best hb hrec'
        refine ⟨h1, fun s hs pw hd => ?_, ?_⟩
        · cases hs with
          | cons _ hs => exact h2 s hs pw hd
          | cons_cons _ hs =>
            have := hd r (by simp)
            rw [dj] at this
            cases this
        · rcases h3 with h3 | ⟨s, a, b, c, d⟩
          · exact .inl h3
          · exact .inr ⟨s, a.cons _, b, c, d⟩
      | true =>
        simp only [if_true]
        obtain ⟨r1, r2, r3⟩ := hrec [] r rem best rfl dj
        generalize hb1 : rec rem (used ++ r.2) (chosen ++ [r.1]) best = best1 at r1 r2 r3
        obtain ⟨h1, h2, h3⟩ := pkLoop_spec rem best1 (by omega) hrec'
        refine ⟨by omega, fun s hs pw hd => ?_, ?_⟩
        · cases hs with
          | cons _ hs => exact h2 s hs pw hd
          | cons_cons _ hs =>
            rename_i s'
            rw [List.pairwise_cons] at pw
            have q := r2 s' hs pw.2 fun x hx => by
              rw [disj_iff]
              intro i hi hu
              rcases List.mem_append.mp hu with z | z
              · exact disj_iff.mp (hd x (List.mem_cons_of_mem _ hx)) i hi z
              · exact pw.1 x hx i z hi
            rw [List.length_cons]
            omega
        · rcases h3 with h3 | ⟨s, a, b, c, d⟩
          · rw [h3]
            rcases r3 with r3 | ⟨s, a, b, c, d⟩
            · exact .inl r3
            · refine .inr ⟨r :: s, a.cons_cons _, List.pairwise_cons.mpr ⟨fun x hx i hi hx2 => ?_, b⟩, fun x hx => ?_, by rw [d]; simp⟩
              · exact disj_iff.mp (c x hx) i hx2 (List.mem_append_right _ hi)
              · rcases List.mem_cons.mp hx with z | z
                · rw [z]; exact dj
                · rw [disj_iff]
                  intro i hi hu
                  exact disj_iff.mp (c x z) i hi (List.mem_append_left _ hu)
          · exact .inr ⟨s, a.cons _, b, c, d⟩
theorem pk_spec {N : Int} (hN : N ≤ 9) : ∀ (k : Nat) (rem : List Rw) (used : List Int) (chosen best : List (List Int)), (∀ r ∈ rem, RwOk N r) → used.Nodup → (∀ i ∈ used, 0 ≤ i ∧ i < N) → 9 < k + used.length →
    best.length ≤ (pk k rem used chosen best).length ∧ (∀ s : List Rw, s.Sublist rem → s.Pairwise DJ → (∀ x ∈ s, disj x.2 used = true) → chosen.length + s.length ≤ (pk k rem used chosen best).length) ∧
      (pk k rem used chosen best = best ∨ ∃ s : List Rw, s.Sublist rem ∧ s.Pairwise DJ ∧ (∀ x ∈ s, disj x.2 used = true) ∧ pk k rem used chosen best = chosen ++ s.map (·.1))
  | 0, rem, used, chosen, best, hr, nd, rg, hk => by
    have := nodup_len nd (ys := irange 0 N) fun i hi => mem_irange.mpr (rg i hi)
    rw [len_irange] at this
    omega
  | k + 1, rem, used, chosen, best, hr, nd, rg, hk => by
    rw [pk]
    obtain ⟨b1, hb1⟩ : ∃ b1, b1 = if best.length < chosen.length then chosen else best := ⟨_, rfl⟩
    rw [← hb1]
    have hb2 : chosen.length ≤ b1.length ∧ best.length ≤ b1.length ∧ (b1 = best ∨ b1 = chosen) := by
      rw [hb1]
      split
      · exact ⟨Nat.le_refl _, by omega, .inr rfl⟩
      · exact ⟨by omega, Nat.le_refl _, .inl rfl⟩
    obtain ⟨h1, h2, h3⟩ := pkLoop_spec (rec := pk k) (used := used) (chosen := chosen) rem b1 hb2.1 (fun pre r rem' best e dj => by
      have hrm : r ∈ rem := by rw [e]; simp
      obtain ⟨rne, rnd, rrg⟩ := hr r hrm
      have dj' := disj_iff.mp dj
      have rpos : 0 < r.2.length := List.length_pos_iff.mpr rne
      have ih := pk_spec hN k rem' (used ++ r.2) (chosen ++ [r.1]) best (fun x hx => hr x (by rw [e]; simp [hx])) (by
          rw [List.nodup_append]
          exact ⟨nd, rnd, fun a ha b hb eab => dj' b hb (eab ▸ ha)⟩) (fun i hi => by
          rcases List.mem_append.mp hi with z | z
          · exact rg i z
          · exact rrg i z) (by rw [List.length_append]; omega)
      rw [List.length_append, List.length_singleton] at ih
      exact ih)
    refine ⟨by omega, h2, ?_⟩
    rcases h3 with h3 | h3
    · rcases hb2.2.2 with q | q
      · exact .inl (by rw [h3, q])
      · exact .inr ⟨[], List.nil_sublist _, .nil, (fun _ h => nomatch h), by rw [h3, q]; simp⟩
    · exact .inr h3
theorem sys_sel {n : Int} {es : List Ed} (hg : VG n es) (ms : List Int) : ∃ s : List Rw, s.Sublist (evN es ms) ∧ s.Pairwise DJ ∧ sysN es ms = s.map (·.1) := by
  obtain ⟨_, _, h3⟩ := pk_spec (N := es.length) (by have := hg.len; omega) 11 (evN es ms) [] [] [] (fun r h => ev_ok h) (by simp) (fun _ h => nomatch h) (by simp)
  rcases h3 with h3 | ⟨s, a, b, _, d⟩
  · exact ⟨[], List.nil_sublist _, .nil, h3⟩
  · exact ⟨s, a, b, d⟩
theorem sys_max {n : Int} {es : List Ed} (hg : VG n es) {ms : List Int} {s : List Rw} (hs : s.Sublist (evN es ms)) (pw : s.Pairwise DJ) : s.length ≤ (sysN es ms).length := by
  obtain ⟨_, h2, _⟩ := pk_spec (N := es.length) (by have := hg.len; omega) 11 (evN es ms) [] [] [] (fun r h => ev_ok h) (by simp) (fun _ h => nomatch h) (by simp)
  have := h2 s hs pw fun x _ => by rw [disj_iff]; simp
  unfold sysN
  simpa using this
theorem sub_perm {α : Type} [DecidableEq α] : ∀ (rows s : List α), s.Nodup → (∀ x ∈ s, x ∈ rows) → ∃ l : List α, l.Perm s ∧ l.Sublist rows
  | [], s, _, h => by
    cases s with
    | nil => exact ⟨[], .nil, List.nil_sublist _⟩
    | cons x s => exact nomatch (h x (by simp))
  | r :: rows, s, nd, h => by
    by_cases hr : r ∈ s
    · obtain ⟨l, p, q⟩ := sub_perm rows (s.erase r) (nd.erase r) fun x hx => by
        have hx2 := (nd.mem_erase_iff).mp hx
        rcases List.mem_cons.mp (h x hx2.2) with z | z
        · exact absurd z hx2.1
        · exact z
      exact ⟨r :: l, (p.cons r).trans (List.perm_cons_erase hr).symm, q.cons_cons _⟩
    · obtain ⟨l, p, q⟩ := sub_perm rows s nd fun x hx => by
        rcases List.mem_cons.mp (h x hx) with z | z
        · exact absurd (z ▸ hx) hr
        · exact z
      exact ⟨l, p, q.cons _⟩
theorem sys_ge {n : Int} {es : List Ed} (hg : VG n es) {ms : List Int} {s : List Rw} (hs : ∀ r ∈ s, r ∈ evN es ms) (pw : s.Pairwise DJ) : s.length ≤ (sysN es ms).length := by
  have nd : s.Nodup := by
    refine pw.imp_of_mem fun {a b} ha _ h e => ?_
    subst e
    have ne := (ev_ok (hs a ha)).ne
    cases q : a.2 with
    | nil => exact ne q
    | cons i u => exact h i (by rw [q]; simp) (by rw [q]; simp)
  obtain ⟨l, p, q⟩ := sub_perm (evN es ms) s nd hs
  have pw2 : l.Pairwise DJ := (p.pairwise_iff fun h => DJ.symm h).mpr pw
  rw [← p.length_eq]
  exact sys_max hg q pw2
/-! ### rows as paths -/
/-- the edge of number i joins a and b -/
def Jn (es : List Ed) (i a b : Int) : Prop := ∃ (k : Nat) (e : Ed), i = k ∧ es[k]? = some e ∧ ((e.1 = a ∧ e.2 = b) ∨ (e.1 = b ∧ e.2 = a))
theorem Jn.symm {es : List Ed} {i a b : Int} (h : Jn es i a b) : Jn es i b a := by
  obtain ⟨k, e, h1, h2, h3⟩ := h
  exact ⟨k, e, h1, h2, h3.symm⟩
theorem Jn.ends {es : List Ed} {i a b c d : Int} (h : Jn es i a b) (k : Jn es i c d) : (a = c ∧ b = d) ∨ (a = d ∧ b = c) := by
  obtain ⟨j, e, h1, h2, h3⟩ := h
  obtain ⟨j', e', k1, k2, k3⟩ := k
  have ej : j = j' := by omega
  subst ej
  rw [h2] at k2
  cases k2
  rcases h3 with h3 | h3 <;> rcases k3 with k3 | k3 <;> omega
/-- on from a to the next mark -/
inductive Run (es : List Ed) (ms : List Int) : Int → List Int → List Int → Prop
  | stop {a v i : Int} : Jn es i a v → v ∈ ms → Run es ms a [v] [i]
  | go {a v i : Int} {q w : List Int} : Jn es i a v → v ∉ ms → Run es ms v q w → Run es ms a (v :: q) (i :: w)
theorem lastI_snoc (p : List Int) (v : Int) : lastI (p ++ [v]) = v := by
  unfold lastI
  simp
theorem jn_num {es : List Ed} {x : Int × Ed} (h : x ∈ nums es) {l : Int} (hl : l = x.2.1 ∨ l = x.2.2) : Jn es x.1 l (x.2.1 + x.2.2 - l) := by
  obtain ⟨k, h1, h2⟩ := mem_nums.mp h
  refine ⟨k, x.2, h1, h2, ?_⟩
  rcases hl with e | e <;> rw [e]
  · exact .inl ⟨rfl, by omega⟩
  · exact .inr ⟨by omega, rfl⟩
theorem num_jn {es : List Ed} {i a b : Int} (h : Jn es i a b) : ∃ x ∈ nums es, x.1 = i ∧ (a = x.2.1 ∨ a = x.2.2) ∧ b = x.2.1 + x.2.2 - a := by
  obtain ⟨k, e, h1, h2, h3⟩ := h
  refine ⟨(i, e), mem_nums.mpr ⟨k, h1, h2⟩, rfl, ?_, ?_⟩
  · rcases h3 with h3 | h3
    · exact .inl h3.1.symm
    · exact .inr h3.2.symm
  · show b = e.1 + e.2 - a
    rcases h3 with h3 | h3 <;> omega
theorem pf_run {es : List Ed} {ms : List Int} : ∀ {k : Nat} {path used : List Int} {r : Rw}, r ∈ pf es ms k path used → path.Nodup → ∃ q w, r = (path ++ q, used ++ w) ∧ Run es ms (lastI path) q w ∧ (path ++ q).Nodup
  | k + 1, path, used, r, h, nd => by
    obtain ⟨x, hx, h⟩ := List.mem_flatMap.mp h
    unfold pfStep at h
    split at h
    · rename_i c
      have jn := jn_num hx c.1
      have nd2 : (path ++ [x.2.1 + x.2.2 - lastI path]).Nodup := by
        rw [List.nodup_append]
        refine ⟨nd, by simp, fun a ha b hb e => ?_⟩
        rw [List.mem_singleton] at hb
        subst hb e
        exact c.2.2 ha
      split at h
      · rename_i hm
        rw [List.mem_singleton] at h
        exact ⟨_, _, h, .stop jn hm, nd2⟩
      · rename_i hm
        obtain ⟨q, w, e, rn, nd3⟩ := pf_run h nd2
        rw [lastI_snoc] at rn
        refine ⟨_ :: q, _ :: w, by rw [e]; simp, .go jn hm rn, by simpa using nd3⟩
    · cases h
theorem run_pf {es : List Ed} {ms : List Int} : ∀ {a : Int} {q w : List Int}, Run es ms a q w → ∀ (k : Nat) (path used : List Int), lastI path = a → (path ++ q).Nodup → q.length ≤ k → (∀ i ∈ used, ∀ c d, Jn es i c d → c ∈ path) → path ≠ [] → (path ++ q, used ++ w) ∈ pf es ms k path used := by
  intro a q w h
  induction h with
  | @stop a v i jn hv =>
    intro k path used hl nd hk hu ne
    cases k with
    | zero => simp at hk
    | succ k =>
      obtain ⟨x, hx, e1, e2, e3⟩ := num_jn jn
      refine List.mem_flatMap.mpr ⟨x, hx, ?_⟩
      have nv : v ∉ path := fun z => by
        rw [List.nodup_append] at nd
        exact nd.2.2 v z v (by simp) rfl
      have c : (lastI path = x.2.1 ∨ lastI path = x.2.2) ∧ x.1 ∉ used ∧ x.2.1 + x.2.2 - lastI path ∉ path := by
        rw [hl]
        refine ⟨e2, fun z => ?_, by rw [← e3]; exact nv⟩
        rw [e1] at z
        exact nv (hu i z v a jn.symm)
      unfold pfStep
      rw [if_pos c, if_pos (by rw [hl, ← e3]; exact hv), hl, ← e3, e1]
      simp
  | @go a v i q w jn hv rn ih =>
    intro k path used hl nd hk hu ne
    cases k with
    | zero => simp at hk
    | succ k =>
      obtain ⟨x, hx, e1, e2, e3⟩ := num_jn jn
      refine List.mem_flatMap.mpr ⟨x, hx, ?_⟩
      have nd' : (path ++ [v] ++ q).Nodup := by simpa using nd
      have nv : v ∉ path := fun z => by
        rw [List.nodup_append] at nd
        exact nd.2.2 v z v (by simp) rfl
      have c : (lastI path = x.2.1 ∨ lastI path = x.2.2) ∧ x.1 ∉ used ∧ x.2.1 + x.2.2 - lastI path ∉ path := by
        rw [hl]
        refine ⟨e2, fun z => ?_, by rw [← e3]; exact nv⟩
        rw [e1] at z
        exact nv (hu i z v a jn.symm)
      unfold pfStep
      rw [if_pos c, if_neg (by rw [hl, ← e3]; exact hv), hl, ← e3, e1]
      have := ih k (path ++ [v]) (used ++ [i]) (lastI_snoc _ _) nd' (by simpa using hk) (fun j hj c d jc => by
        rcases List.mem_append.mp hj with z | z
        · exact List.mem_append_left _ (hu j z c d jc)
        · rw [List.mem_singleton] at z
          subst z
          rcases jc.ends jn with q | q
          · rw [q.1, ← hl]
            refine List.mem_append_left _ ?_
            obtain ⟨p', x', rfl⟩ : ∃ p' x', path = p' ++ [x'] := ⟨path.dropLast, path.getLast ne, (List.dropLast_concat_getLast ne).symm⟩
            rw [lastI_snoc]
            simp
          · rw [q.1]; simp) (by simp)
      simpa using this

/-- b is reached from a by edges with numbers in U -/
inductive Rch (es : List Ed) (U : List Int) : Int → Int → Prop
  | refl (a : Int) : Rch es U a a
  | step {i a b c : Int} : i ∈ U → Jn es i a b → Rch es U b c → Rch es U a c
theorem Rch.trans {es : List Ed} {U : List Int} {a b c : Int} (h : Rch es U a b) (k : Rch es U b c) : Rch es U a c := by
  induction h with
  | refl _ => exact k
  | step hi hj _ ih => exact .step hi hj (ih k)
theorem Rch.one {es : List Ed} {U : List Int} {i a b : Int} (hi : i ∈ U) (h : Jn es i a b) : Rch es U a b := .step hi h (.refl _)
theorem Rch.symm {es : List Ed} {U : List Int} {a b : Int} (h : Rch es U a b) : Rch es U b a := by
  induction h with
  | refl _ => exact .refl _
  | step hi hj _ ih => exact ih.trans (.one hi hj.symm)
theorem Rch.mono {es : List Ed} {U V : List Int} {a b : Int} (s : ∀ i ∈ U, i ∈ V) (h : Rch es U a b) : Rch es V a b := by
  induction h with
  | refl _ => exact .refl _
  | step hi hj _ ih => exact .step (s _ hi) hj ih
/-- from one graph to another: each edge is led over -/
theorem Rch.lead {es es' : List Ed} {U V : List Int} {f : Int → Int} {a b : Int} (s : ∀ i ∈ U, ∀ c d, Jn es i c d → Rch es' V (f c) (f d)) (h : Rch es U a b) : Rch es' V (f a) (f b) := by
  induction h with
  | refl _ => exact .refl _
  | step hi hj _ ih => exact (s _ hi _ _ hj).trans ih
/-- two different marks are joined within U -/
def Lk (es : List Ed) (ms : List Int) (U : List Int) : Prop := ∃ a b, a ∈ ms ∧ b ∈ ms ∧ a ≠ b ∧ Rch es U a b
inductive SP (es : List Ed) (U : List Int) : Int → List Int → List Int → Prop
  | nil (a : Int) : SP es U a [] []
  | cons {i a v : Int} {q w : List Int} : i ∈ U → Jn es i a v → SP es U v q w → SP es U a (v :: q) (i :: w)
theorem lastI_cons (a v : Int) (q : List Int) : lastI (a :: v :: q) = lastI (v :: q) := by
  unfold lastI
  simp [List.getLastD_cons]
theorem lastI_one (a : Int) : lastI [a] = a := rfl
theorem lastI_mem : ∀ (a : Int) (q : List Int), lastI (a :: q) ∈ a :: q
  | a, [] => by simp [lastI_one]
  | a, v :: q => by rw [lastI_cons]; exact List.mem_cons_of_mem _ (lastI_mem v q)
theorem sp_suffix {es : List Ed} {U : List Int} : ∀ {b : Int} {q w : List Int}, SP es U b q w → (b :: q).Nodup → ∀ x ∈ b :: q, ∃ q2 w2, SP es U x q2 w2 ∧ (x :: q2).Nodup ∧ lastI (x :: q2) = lastI (b :: q) := by
  intro b q w h
  induction h with
  | nil a =>
    intro nd x hx
    rw [List.mem_singleton] at hx
    subst hx
    exact ⟨[], [], .nil _, nd, rfl⟩
  | @cons i a v q w hi hj sp ih =>
    intro nd x hx
    rcases List.mem_cons.mp hx with z | z
    · subst z
      exact ⟨v :: q, i :: w, .cons hi hj sp, nd, rfl⟩
    · obtain ⟨q2, w2, h1, h2, h3⟩ := ih (List.nodup_cons.mp nd).2 x z
      exact ⟨q2, w2, h1, h2, by rw [h3, lastI_cons]⟩
theorem rch_sp {es : List Ed} {U : List Int} {a b : Int} (h : Rch es U a b) : ∃ q w, SP es U a q w ∧ (a :: q).Nodup ∧ lastI (a :: q) = b := by
  induction h with
  | refl a => exact ⟨[], [], .nil a, by simp, rfl⟩
  | @step i a b c hi hj _ ih =>
    obtain ⟨q, w, sp, nd, l⟩ := ih
    by_cases ha : a ∈ b :: q
    · obtain ⟨q2, w2, h1, h2, h3⟩ := sp_suffix sp nd a ha
      exact ⟨q2, w2, h1, h2, by rw [h3, l]⟩
    · exact ⟨b :: q, i :: w, .cons hi hj sp, List.nodup_cons.mpr ⟨ha, nd⟩, by rw [lastI_cons, l]⟩
theorem sp_run {es : List Ed} {U ms : List Int} : ∀ {a : Int} {q w : List Int}, SP es U a q w → q ≠ [] → lastI (a :: q) ∈ ms → ∃ q' w', Run es ms a q' w' ∧ q'.Sublist q ∧ (∀ i ∈ w', i ∈ U) ∧ lastI (a :: q') ∈ ms := by
  intro a q w h
  induction h with
  | nil a => intro h; exact absurd rfl h
  | @cons i a v q w hi hj sp ih =>
    intro _ hl
    by_cases hv : v ∈ ms
    · exact ⟨[v], [i], .stop hj hv, by simp, fun j hj => by rw [List.mem_singleton] at hj; rw [hj]; exact hi, by rw [lastI_cons]; exact hv⟩
    · have hq : q ≠ [] := fun z => by
        subst z
        rw [lastI_cons] at hl
        exact hv hl
      rw [lastI_cons] at hl
      obtain ⟨q', w', h1, h2, h3, h4⟩ := ih hq hl
      refine ⟨v :: q', i :: w', .go hj hv h1, h2.cons_cons _, fun j hj => ?_, by rw [lastI_cons]; exact h4⟩
      rcases List.mem_cons.mp hj with z | z
      · rw [z]; exact hi
      · exact h3 j z
theorem run_rch {es : List Ed} {ms : List Int} {a : Int} {q w : List Int} (h : Run es ms a q w) : Rch es w a (lastI (a :: q)) ∧ lastI (a :: q) ∈ ms ∧ q ≠ [] := by
  induction h with
  | @stop a v i jn hv => exact ⟨by rw [lastI_cons]; exact .one (by simp) jn, by rw [lastI_cons]; exact hv, by simp⟩
  | @go a v i q w jn hv _ ih =>
    rw [lastI_cons]
    exact ⟨.step (by simp) jn (ih.1.mono fun j hj => List.mem_cons_of_mem _ hj), ih.2.1, by simp⟩
/-- a run, turned -/
theorem run_rev {es : List Ed} {ms : List Int} : ∀ {a : Int} {q w : List Int}, Run es ms a q w → ∀ (p u : List Int), ((p = [] ∧ u = [] ∧ a ∈ ms) ∨ (a ∉ ms ∧ Run es ms a p u)) → Run es ms (lastI (a :: q)) ((a :: q).reverse.tail ++ p) (w.reverse ++ u) := by
  intro a q w h
  induction h with
  | @stop a v i jn hv =>
    intro p u back
    rcases back with ⟨rfl, rfl, ha⟩ | ⟨ha, rn⟩
    · exact .stop jn.symm ha
    · exact .go jn.symm ha rn
  | @go a v i q w jn hv _ ih =>
    intro p u back
    have rn : Run es ms v (a :: p) (i :: u) := by
      rcases back with ⟨rfl, rfl, ha⟩ | ⟨ha, rn⟩
      · exact .stop jn.symm ha
      · exact .go jn.symm ha rn
    have := ih (a :: p) (i :: u) (.inr ⟨hv, rn⟩)
    rw [lastI_cons]
    have e1 : (a :: v :: q).reverse.tail ++ p = (v :: q).reverse.tail ++ a :: p := by
      rw [List.reverse_cons, List.tail_append_of_ne_nil (by simp), List.append_assoc]
      rfl
    have e2 : (i :: w).reverse ++ u = w.reverse ++ i :: u := by rw [List.reverse_cons, List.append_assoc]; rfl
    rw [e1, e2]
    exact this
theorem jn_rg {n : Int} {es : List Ed} (hg : VG n es) {i a b : Int} (h : Jn es i a b) : (0 ≤ a ∧ a < n) ∧ (0 ≤ b ∧ b < n) ∧ a ≠ b := by
  obtain ⟨k, e, _, h2, h3⟩ := h
  have := hg.ed e (List.mem_of_getElem? h2)
  rcases h3 with h3 | h3 <;> omega
theorem run_vs {n : Int} {es : List Ed} (hg : VG n es) {ms : List Int} {a : Int} {q w : List Int} (h : Run es ms a q w) : ∀ v ∈ a :: q, 0 ≤ v ∧ v < n := by
  induction h with
  | @stop a v i jn hv =>
    obtain ⟨h1, h2, _⟩ := jn_rg hg jn
    intro x hx
    rcases List.mem_cons.mp hx with z | z
    · rw [z]; exact h1
    · rw [List.mem_singleton.mp z]; exact h2
  | @go a v i q w jn hv _ ih =>
    obtain ⟨h1, _, _⟩ := jn_rg hg jn
    intro x hx
    rcases List.mem_cons.mp hx with z | z
    · rw [z]; exact h1
    · exact ih x z
theorem rev_last (a : Int) (q : List Int) : lastI (lastI (a :: q) :: (a :: q).reverse.tail) = a ∧ (lastI (a :: q) :: (a :: q).reverse.tail) = (a :: q).reverse := by
  obtain ⟨p', x', e⟩ : ∃ p' x', a :: q = p' ++ [x'] := ⟨(a :: q).dropLast, (a :: q).getLast (by simp), (List.dropLast_concat_getLast (by simp)).symm⟩
  have e2 : lastI (a :: q) = x' := by rw [e, lastI_snoc]
  have e3 : (a :: q).reverse = x' :: p'.reverse := by rw [e]; simp
  have e4 : (lastI (a :: q) :: (a :: q).reverse.tail) = (a :: q).reverse := by rw [e2, e3]; rfl
  refine ⟨?_, e4⟩
  rw [e4, List.reverse_cons, lastI_snoc]
/-- a run between two marks is a row, perhaps turned -/
theorem run_row {n : Int} {es : List Ed} (hg : VG n es) {ms : List Int} {a : Int} {q w : List Int} (h : Run es ms a q w) (ha : a ∈ ms) (nd : (a :: q).Nodup) : ∃ r ∈ evN es ms, (r = (a :: q, w) ∨ r = ((a :: q).reverse, w.reverse)) := by
  obtain ⟨_, lm, qne⟩ := run_rch h
  have hlen : (a :: q).length ≤ 6 := by
    have := Pth.len (n := n) (p := a :: q) (by have := hg.lo; omega) ⟨by simp, nd, run_vs hg h⟩
    have := hg.hi
    omega
  have ne : a ≠ lastI (a :: q) := by
    cases q with
    | nil => exact absurd rfl qne
    | cons v q =>
      intro z
      rw [lastI_cons] at z
      exact (List.nodup_cons.mp nd).1 (z ▸ lastI_mem v q)
  by_cases lt : a < lastI (a :: q)
  · refine ⟨(a :: q, w), ev_mem.mpr ⟨a, ha, ?_, lt⟩, .inl rfl⟩
    have := run_pf h 11 [a] [] rfl (by simpa using nd) (by rw [List.length_cons] at hlen; omega) (fun _ h => nomatch h) (by simp)
    simpa using this
  · obtain ⟨l1, l2⟩ := rev_last a q
    have rr := run_rev h [] [] (.inl ⟨rfl, rfl, ha⟩)
    rw [List.append_nil, List.append_nil] at rr
    have nd2 : (lastI (a :: q) :: (a :: q).reverse.tail).Nodup := by rw [l2]; exact (List.reverse_perm _).nodup_iff.mpr nd
    refine ⟨((a :: q).reverse, w.reverse), ev_mem.mpr ⟨lastI (a :: q), lm, ?_, ?_⟩, .inr rfl⟩
    · have := run_pf rr 11 [lastI (a :: q)] [] rfl (by simpa using nd2) (by rw [List.length_tail, List.length_reverse]; omega) (fun _ h => nomatch h) (by simp)
      rw [← l2]
      simpa using this
    · show lastI (a :: q) < lastI ((a :: q).reverse)
      rw [← l2, l1]
      omega
theorem lk_row {n : Int} {es : List Ed} (hg : VG n es) {ms U : List Int} (h : Lk es ms U) : ∃ r ∈ evN es ms, ∀ i ∈ r.2, i ∈ U := by
  obtain ⟨a, b, ha, hb, ne, rc⟩ := h
  obtain ⟨q, w, sp, nd, l⟩ := rch_sp rc
  have qne : q ≠ [] := fun z => by
    subst z
    exact ne l
  obtain ⟨q', w', rn, sub, hw, lm⟩ := sp_run (ms := ms) sp qne (by rw [l]; exact hb)
  have nd' : (a :: q').Nodup := nd.sublist (sub.cons_cons _)
  obtain ⟨r, hr, e⟩ := run_row hg rn ha nd'
  refine ⟨r, hr, fun i hi => ?_⟩
  rcases e with e | e
  · rw [e] at hi; exact hw i hi
  · rw [e] at hi; exact hw i (List.mem_reverse.mp hi)
theorem row_run {es : List Ed} {ms : List Int} {r : Rw} (h : r ∈ evN es ms) : ∃ m q, m ∈ ms ∧ r.1 = m :: q ∧ Run es ms m q r.2 ∧ (m :: q).Nodup ∧ m < lastI (m :: q) := by
  obtain ⟨m, hm, h, lt⟩ := ev_mem.mp h
  obtain ⟨q, w, e, rn, nd⟩ := pf_run h (by simp)
  rw [lastI_one] at rn
  subst e
  exact ⟨m, q, hm, rfl, by simpa using rn, by simpa using nd, by simpa using lt⟩
theorem row_lk {es : List Ed} {ms : List Int} {r : Rw} (h : r ∈ evN es ms) : Lk es ms r.2 := by
  obtain ⟨m, q, hm, _, rn, _, lt⟩ := row_run h
  obtain ⟨rc, lm, _⟩ := run_rch rn
  exact ⟨m, _, hm, lm, by omega, rc⟩
def DL2 (a b : List Int) : Prop := ∀ i ∈ a, i ∉ b
/-- pairwise disjoint sets of edges that each join two marks -/
structure Fam (es : List Ed) (ms : List Int) (Us : List (List Int)) : Prop where
  pw : Us.Pairwise DL2
  lk : ∀ U ∈ Us, Lk es ms U
theorem most_ge {n : Int} {es : List Ed} (hg : VG n es) {ms : List Int} {Us : List (List Int)} (h : Fam es ms Us) : Us.length ≤ (sysN es ms).length := by
  have key : ∀ Us : List (List Int), (∀ U ∈ Us, Lk es ms U) → ∃ s : List Rw, s.length = Us.length ∧ (∀ r ∈ s, r ∈ evN es ms) ∧ (∀ r ∈ s, ∃ U ∈ Us, ∀ i ∈ r.2, i ∈ U) ∧ (Us.Pairwise DL2 → s.Pairwise DJ) := by
    intro Us
    induction Us with
    | nil => intro _; exact ⟨[], rfl, (fun _ h => nomatch h), (fun _ h => nomatch h), fun _ => .nil⟩
    | cons U Us ih =>
      intro hl
      obtain ⟨s, h1, h2, h3, h4⟩ := ih fun V hV => hl V (List.mem_cons_of_mem _ hV)
      obtain ⟨r, hr, hi⟩ := lk_row hg (hl U (by simp))
      refine ⟨r :: s, by simp [h1], fun x hx => ?_, fun x hx => ?_, fun pw => ?_⟩
      · rcases List.mem_cons.mp hx with z | z
        · rw [z]; exact hr
        · exact h2 x z
      · rcases List.mem_cons.mp hx with z | z
        · rw [z]; exact ⟨U, by simp, hi⟩
        · obtain ⟨V, hV, q⟩ := h3 x z
          exact ⟨V, List.mem_cons_of_mem _ hV, q⟩
      · rw [List.pairwise_cons] at pw
        refine List.pairwise_cons.mpr ⟨fun x hx i hir hix => ?_, h4 pw.2⟩
        obtain ⟨V, hV, q⟩ := h3 x hx
        exact pw.1 V hV i (hi i hir) (q i hix)
  obtain ⟨s, h1, h2, _, h4⟩ := key Us h.lk
  rw [← h1]
  exact sys_ge hg h2 (h4 h.pw)
/-- the system that is found, as rows -/
theorem sys_rows {n : Int} {es : List Ed} (hg : VG n es) (ms : List Int) : ∃ s : List Rw, sysN es ms = s.map (·.1) ∧ (∀ r ∈ s, r ∈ evN es ms) ∧ s.Pairwise DJ := by
  obtain ⟨s, h1, h2, h3⟩ := sys_sel hg ms
  exact ⟨s, h3, fun r hr => h1.subset hr, h2⟩
theorem most_fam {n : Int} {es : List Ed} (hg : VG n es) (ms : List Int) : ∃ Us, Fam es ms Us ∧ Us.length = (sysN es ms).length ∧ (∀ U ∈ Us, U ≠ [] ∧ U.Nodup ∧ ∀ i ∈ U, 0 ≤ i ∧ i < es.length) := by
  obtain ⟨s, h1, h2, h3⟩ := sys_rows hg ms
  refine ⟨s.map (·.2), ⟨?_, fun U hU => ?_⟩, by rw [h1]; simp, fun U hU => ?_⟩
  · rw [List.pairwise_map]
    exact h3
  · obtain ⟨r, hr, rfl⟩ := List.mem_map.mp hU
    exact row_lk (h2 r hr)
  · obtain ⟨r, hr, rfl⟩ := List.mem_map.mp hU
    have := ev_ok (h2 r hr)
    exact ⟨this.ne, this.nd, this.rg⟩

/-- the places of a list, led to those of a permutation -/
theorem perm_places {α : Type} {l m : List α} (h : l.Perm m) : ∃ f : Nat → Nat, (∀ (i : Nat) (x : α), l[i]? = some x → m[f i]? = some x) ∧ ∀ i j : Nat, i < l.length → j < l.length → f i = f j → i = j := by
  induction h with
  | nil => exact ⟨id, fun _ _ h => h, fun _ _ _ _ h => h⟩
  | @cons x l m _ ih =>
    obtain ⟨f, h1, h2⟩ := ih
    refine ⟨fun i => match i with
      | 0 => 0
      | i + 1 => f i + 1, fun i y hy => ?_, fun i j hi hj e => ?_⟩
    · cases i with
      | zero => exact hy
      | succ i =>
        rw [List.getElem?_cons_succ] at hy ⊢
        exact h1 i y hy
    · cases i with
      | zero =>
        cases j with
        | zero => rfl
        | succ j => simp at e
      | succ i =>
        cases j with
        | zero => simp at e
        | succ j =>
          simp only [List.length_cons] at hi hj
          have := h2 i j (by omega) (by omega) (by simpa using e)
          omega
  | swap x y l =>
    refine ⟨fun i => match i with
      | 0 => 1
      | 1 => 0
      | i + 2 => i + 2, fun i z hz => ?_, fun i j hi hj e => ?_⟩
    · match i, hz with
      | 0, hz => exact hz
      | 1, hz => exact hz
      | i + 2, hz => exact hz
    · match i, j, e with
      | 0, 0, _ => rfl
      | 0, 1, e => simp at e
      | 0, j + 2, e => simp at e
      | 1, 0, e => simp at e
      | 1, 1, _ => rfl
      | 1, j + 2, e => simp at e
      | i + 2, 0, e => simp at e
      | i + 2, 1, e => simp at e
      | i + 2, j + 2, e => simpa using e
  | @trans l m k p q ih1 ih2 =>
    obtain ⟨f, h1, h2⟩ := ih1
    obtain ⟨g, h3, h4⟩ := ih2
    refine ⟨g ∘ f, fun i x hx => h3 _ _ (h1 i x hx), fun i j hi hj e => ?_⟩
    have fi : f i < m.length := (List.getElem?_eq_some_iff.mp (h1 i _ (List.getElem?_eq_getElem hi))).1
    have fj : f j < m.length := (List.getElem?_eq_some_iff.mp (h1 j _ (List.getElem?_eq_getElem hj))).1
    exact h2 i j hi hj (h4 _ _ fi fj e)
/-- numbers led from one graph to another -/
structure Emb (es es' : List Ed) (φ : Int → Int) : Prop where
  jn : ∀ i a b, Jn es i a b → Jn es' (φ i) a b
  inj : ∀ i j : Int, 0 ≤ i → i < es.length → 0 ≤ j → j < es.length → φ i = φ j → i = j
theorem jn_of {es es' : List Ed} {i j a b : Int} (h : ∀ (k : Nat) (e : Ed), i = k → es[k]? = some e → ∃ k' : Nat, j = k' ∧ es'[k']? = some e) (q : Jn es i a b) : Jn es' j a b := by
  obtain ⟨k, e, h1, h2, h3⟩ := q
  obtain ⟨k', e1, e2⟩ := h k e h1 h2
  exact ⟨k', e, e1, e2, h3⟩
theorem emb_perm {es es' : List Ed} (h : es.Perm es') : ∃ φ, Emb es es' φ ∧ ∀ i : Int, 0 ≤ i → i < es.length → 0 ≤ φ i ∧ φ i < es'.length := by
  obtain ⟨f, h1, h2⟩ := perm_places h
  refine ⟨fun i => (f i.toNat : Int), ⟨fun i a b q => jn_of (fun k e ek he => ⟨f i.toNat, rfl, h1 _ _ (by rw [ek]; exact he)⟩) q, fun i j i0 i1 j0 j1 e => ?_⟩, fun i i0 i1 => ?_⟩
  · have := h2 i.toNat j.toNat (by omega) (by omega) (Int.ofNat.inj e)
    omega
  · have := (List.getElem?_eq_some_iff.mp (h1 i.toNat _ (List.getElem?_eq_getElem (by omega)))).1
    show 0 ≤ ((f i.toNat : Nat) : Int) ∧ ((f i.toNat : Nat) : Int) < _
    omega
theorem emb_app (es more : List Ed) : Emb es (es ++ more) id := ⟨fun i a b q => jn_of (fun k e ek he => ⟨k, ek, by
  rw [List.getElem?_append_left (List.getElem?_eq_some_iff.mp he).1]; exact he⟩) q, fun i j _ _ _ _ e => e⟩
theorem fam_emb {es es' : List Ed} {φ : Int → Int} (E : Emb es es' φ) {ms ms' : List Int} (hm : ∀ m ∈ ms, m ∈ ms') {Us : List (List Int)} (h : Fam es ms Us) (rg : ∀ U ∈ Us, ∀ i ∈ U, 0 ≤ i ∧ i < es.length) : Fam es' ms' (Us.map (·.map φ)) := by
  refine ⟨?_, fun V hV => ?_⟩
  · rw [List.pairwise_map]
    refine h.pw.imp_of_mem fun {a b} ha hb d i hi hj => ?_
    obtain ⟨x, hx, e1⟩ := List.mem_map.mp hi
    obtain ⟨y, hy, e2⟩ := List.mem_map.mp hj
    obtain ⟨x0, x1⟩ := rg a ha x hx
    obtain ⟨y0, y1⟩ := rg b hb y hy
    have := E.inj x y x0 x1 y0 y1 (e1.trans e2.symm)
    subst this
    exact d x hx hy
  · obtain ⟨U, hU, rfl⟩ := List.mem_map.mp hV
    obtain ⟨a, b, ha, hb, ne, rc⟩ := h.lk U hU
    exact ⟨a, b, hm a ha, hm b hb, ne, Rch.lead (f := id) (fun i hi c d q => .one (List.mem_map.mpr ⟨i, hi, rfl⟩) (E.jn i c d q)) rc⟩
theorem most_mono {n n' : Int} {es es' : List Ed} (hg : VG n es) (hg' : VG n' es') {φ : Int → Int} (E : Emb es es' φ) {ms ms' : List Int} (hm : ∀ m ∈ ms, m ∈ ms') : (sysN es ms).length ≤ (sysN es' ms').length := by
  obtain ⟨Us, F, hl, rg⟩ := most_fam hg ms
  have := most_ge hg' (fam_emb E hm F fun U hU => (rg U hU).2.2)
  rw [List.length_map] at this
  omega
theorem fam_drop {Us : List (List Int)} (h : Us.Pairwise DL2) (i : Int) : Us.length ≤ (Us.filter fun U => !decide (i ∈ U)).length + 1 := by
  induction Us with
  | nil => simp
  | cons U Us ih =>
    rw [List.pairwise_cons] at h
    by_cases hi : i ∈ U
    · have e : Us.filter (fun U => !decide (i ∈ U)) = Us := List.filter_eq_self.mpr fun V hV => by
        have := h.1 V hV i hi
        simp [this]
      rw [List.filter_cons]
      simp [hi, e]
    · have := ih h.2
      rw [List.filter_cons]
      simp [hi]
      omega
/-- one edge more, one path more at most -/
theorem most_less {n : Int} {es es' : List Ed} {e : Ed} (hg : VG n es) (hg' : VG n es') (p : es'.Perm (es ++ [e])) (ms : List Int) : (sysN es' ms).length ≤ (sysN es ms).length + 1 := by
  obtain ⟨φ, E, rgφ⟩ := emb_perm p
  obtain ⟨Us, F, hl, rg⟩ := most_fam hg' ms
  have F2 := fam_emb E (fun m hm => hm) F fun U hU => (rg U hU).2.2
  have d := fam_drop F2.pw (es.length : Int)
  rw [List.length_map] at d
  have F3 : Fam es ms ((Us.map (·.map φ)).filter fun U => !decide ((es.length : Int) ∈ U)) := by
    refine ⟨F2.pw.filter _, fun V hV => ?_⟩
    obtain ⟨hV1, hV2⟩ := List.mem_filter.mp hV
    have nin : (es.length : Int) ∉ V := by simpa using hV2
    obtain ⟨a, b, ha, hb, ne, rc⟩ := F2.lk V hV1
    refine ⟨a, b, ha, hb, ne, Rch.lead (f := id) (fun i hi c d q => .one hi (jn_of (fun k x ek hx => ⟨k, ek, ?_⟩) q)) rc⟩
    have hk : k ≠ es.length := fun z => nin (by rw [← z, ← ek]; exact hi)
    have hkl := (List.getElem?_eq_some_iff.mp hx).1
    rw [List.length_append, List.length_singleton] at hkl
    rw [List.getElem?_append_left (by omega)] at hx
    exact hx
  have := most_ge hg F3
  omega
def parR (i j : Nat) (ρ : DL.Env) : List PyData → RS
  | [x, y] => .nx ((ρ.set i (.val x)).set j (.val y))
  | _ => .bad
@[simp] theorem parR_2 (i j : Nat) (ρ : DL.Env) (x y : PyData) : parR i j ρ [x, y] = .nx ((ρ.set i (.val x)).set j (.val y)) := id rfl
@[simp] theorem ev_par (i j : Nat) (f : DL.Env → Res (List PyData)) (ρ : DL.Env) : sPar i j f ρ = ofR (f ρ) (parR i j ρ) := by
  unfold sPar
  congr 1

def wo (es : List Ed) (us : List Int) : List Ed := ((nums es).filter fun x => !decide (x.1 ∈ us)).map (·.2)
theorem wo_sub (es : List Ed) (us : List Int) : (wo es us).Sublist es := by
  unfold wo
  have h : ((nums es).filter fun x => !decide (x.1 ∈ us)).Sublist (nums es) := List.filter_sublist
  have := h.map (·.2)
  rw [nums_snd] at this
  exact this
theorem wo_vg {n : Int} {es : List Ed} (hg : VG n es) (us : List Int) : VG n (wo es us) :=
  ⟨hg.lo, hg.hi, Nat.le_trans (wo_sub es us).length_le hg.len, fun e he => hg.ed e ((wo_sub es us).subset he), hg.up.sublist (wo_sub es us)⟩
/-- the numbers that are left, as they were -/
def woNums (es : List Ed) (us : List Int) : List Int := ((nums es).filter fun x => !decide (x.1 ∈ us)).map (·.1)
theorem wo_back {es : List Ed} {us : List Int} {k : Nat} {e : Ed} (h : (wo es us)[k]? = some e) : ∃ i : Int, (woNums es us)[k]? = some i ∧ i ∉ us ∧ ∃ j : Nat, i = j ∧ es[j]? = some e := by
  unfold wo at h
  rw [List.getElem?_map] at h
  cases q : ((nums es).filter fun x => !decide (x.1 ∈ us))[k]? with
  | none => rw [q] at h; cases h
  | some x =>
    rw [q] at h
    cases h
    obtain ⟨h1, h2⟩ := List.mem_filter.mp (List.mem_of_getElem? q)
    refine ⟨x.1, by unfold woNums; rw [List.getElem?_map, q]; rfl, by simpa using h2, mem_nums.mp h1⟩
theorem nums_fst_nodup (es : List Ed) : ((nums es).map (·.1)).Nodup := by
  have h : (nums es).Pairwise fun x y => x.1 ≠ y.1 := by
    rw [List.pairwise_iff_getElem]
    intro i j hi hj hij e
    have a := (nums_at (List.getElem?_eq_getElem hi)).1
    have b := (nums_at (List.getElem?_eq_getElem hj)).1
    omega
  exact List.pairwise_map.mpr h
theorem nodup_inj {xs : List Int} (h : xs.Nodup) {i j : Nat} (hi : i < xs.length) (hj : j < xs.length) (e : xs[i] = xs[j]) : i = j := by
  have h := List.pairwise_iff_getElem.mp h
  rcases Nat.lt_trichotomy i j with z | z | z
  · exact absurd e (h i j hi hj z)
  · exact z
  · exact absurd e.symm (h j i hj hi z)
theorem woNums_nodup (es : List Ed) (us : List Int) : (woNums es us).Nodup := (nums_fst_nodup es).sublist (List.filter_sublist.map _)
/-- the edges that are left lie in the graph -/
theorem emb_wo (es : List Ed) (us : List Int) : ∃ φ, Emb (wo es us) es φ ∧ ∀ i : Int, 0 ≤ i → i < (wo es us).length → φ i ∉ us ∧ 0 ≤ φ i ∧ φ i < es.length := by
  have hlen : (woNums es us).length = (wo es us).length := by unfold woNums wo; rw [List.length_map, List.length_map]
  refine ⟨fun i => (woNums es us).getD i.toNat 0, ⟨fun i a b q => jn_of (fun k e ek he => ?_) q, fun i j i0 i1 j0 j1 e => ?_⟩, fun i i0 i1 => ?_⟩
  · obtain ⟨x, h1, _, j, h2, h3⟩ := wo_back he
    refine ⟨j, ?_, h3⟩
    show (woNums es us).getD i.toNat 0 = j
    rw [List.getD_eq_getElem?_getD, ek, Int.toNat_natCast, h1]
    exact h2
  · have hi : i.toNat < (woNums es us).length := by omega
    have hj : j.toNat < (woNums es us).length := by omega
    have e : (woNums es us).getD i.toNat 0 = (woNums es us).getD j.toNat 0 := e
    rw [List.getD_eq_getElem?_getD, List.getD_eq_getElem?_getD, List.getElem?_eq_getElem hi, List.getElem?_eq_getElem hj] at e
    have e : (woNums es us)[i.toNat] = (woNums es us)[j.toNat] := e
    have := nodup_inj (woNums_nodup es us) hi hj e
    omega
  · obtain ⟨x, h1, h2, j, h3, h4⟩ := wo_back (List.getElem?_eq_getElem (show i.toNat < (wo es us).length by omega))
    have e : (woNums es us).getD i.toNat 0 = x := by rw [List.getD_eq_getElem?_getD, h1]; rfl
    show (woNums es us).getD i.toNat 0 ∉ us ∧ _
    have := (List.getElem?_eq_some_iff.mp h4).1
    refine ⟨by rw [e]; exact h2, ?_, ?_⟩
    · show 0 ≤ (woNums es us).getD i.toNat 0; omega
    · show (woNums es us).getD i.toNat 0 < _; omega
/-- an edge replaced by two others that lead from the one end to the other: no more paths -/
theorem most_split {n : Int} {es es' : List Ed} (hg : VG n es) (hg' : VG n es') {i j : Int} {p q c : Int} (pm : es'.Perm (wo es [i, j] ++ [(p, q)])) (h1 : Jn es i p c ∨ Jn es i q c) (h2 : (Jn es i p c → Jn es j c q) ∧ (Jn es i q c → Jn es j c p)) (ms : List Int) : (sysN es' ms).length ≤ (sysN es ms).length := by
  obtain ⟨φ, E, _⟩ := emb_perm pm
  obtain ⟨Us, F, hl, rg⟩ := most_fam hg' ms
  have F2 := fam_emb E (fun m hm => hm) F fun U hU => (rg U hU).2.2
  obtain ⟨ψ, G, rgψ⟩ := emb_wo es [i, j]
  have nrg : ∀ U ∈ Us.map (·.map φ), ∀ x ∈ U, (0 : Int) ≤ x ∧ x < ((wo es [i, j]).length : Int) + 1 := fun U hU x hx => by
    obtain ⟨V, hV, rfl⟩ := List.mem_map.mp hU
    obtain ⟨y, hy, rfl⟩ := List.mem_map.mp hx
    obtain ⟨_, _, r⟩ := rg V hV
    have := r y hy
    have z := (Classical.em True)
    obtain ⟨k, e, e1, e2⟩ : ∃ (k : Nat) (e : Ed), y = k ∧ es'[k]? = some e := ⟨y.toNat, es'[y.toNat]'(by omega), by omega, List.getElem?_eq_getElem (by omega)⟩
    obtain ⟨k', e', e3, e4, _⟩ := E.jn y e.1 e.2 ⟨k, e, e1, e2, .inl ⟨rfl, rfl⟩⟩
    have := (List.getElem?_eq_some_iff.mp e4).1
    rw [List.length_append, List.length_singleton] at this
    omega
  let T : Int → List Int := fun x => if x = ((wo es [i, j]).length : Int) then [i, j] else [ψ x]
  have F3 : Fam es ms ((Us.map (·.map φ)).map (·.flatMap T)) := by
    refine ⟨?_, fun V hV => ?_⟩
    · rw [List.pairwise_map]
      refine F2.pw.imp_of_mem fun {a b} ha hb d x hx hy => ?_
      obtain ⟨u, hu, hu2⟩ := List.mem_flatMap.mp hx
      obtain ⟨v, hv, hv2⟩ := List.mem_flatMap.mp hy
      have ru := nrg a ha u hu
      have rv := nrg b hb v hv
      have ne : u ≠ v := fun z => d u hu (z ▸ hv)
      by_cases c1 : u = ((wo es [i, j]).length : Int)
      · have c2 : ¬ v = ((wo es [i, j]).length : Int) := fun z => ne (c1.trans z.symm)
        simp only [T, if_pos c1] at hu2
        simp only [T, if_neg c2, List.mem_singleton] at hv2
        have := (rgψ v rv.1 (by omega)).1
        rw [← hv2] at this
        exact this hu2
      · simp only [T, if_neg c1, List.mem_singleton] at hu2
        by_cases c2 : v = ((wo es [i, j]).length : Int)
        · simp only [T, if_pos c2] at hv2
          have := (rgψ u ru.1 (by omega)).1
          rw [← hu2] at this
          exact this hv2
        · simp only [T, if_neg c2, List.mem_singleton] at hv2
          exact ne (G.inj u v ru.1 (by omega) rv.1 (by omega) (hu2.symm.trans hv2))
    · obtain ⟨U, hU, rfl⟩ := List.mem_map.mp hV
      obtain ⟨a, b, ha, hb, ne, rc⟩ := F2.lk U hU
      refine ⟨a, b, ha, hb, ne, Rch.lead (f := id) (fun x hx u v jn => ?_) rc⟩
      by_cases c1 : x = ((wo es [i, j]).length : Int)
      · have mi : i ∈ U.flatMap T := List.mem_flatMap.mpr ⟨x, hx, by simp [T, c1]⟩
        have mj : j ∈ U.flatMap T := List.mem_flatMap.mpr ⟨x, hx, by simp [T, c1]⟩
        have pq : Jn (wo es [i, j] ++ [(p, q)]) x p q := ⟨(wo es [i, j]).length, (p, q), c1, by simp, .inl ⟨rfl, rfl⟩⟩
        have go : Rch es (U.flatMap T) p q := by
          rcases h1 with h1 | h1
          · exact .step mi h1 (.one mj (h2.1 h1))
          · exact Rch.symm (.step mi h1 (.one mj (h2.2 h1)))
        rcases jn.ends pq with ⟨e1, e2⟩ | ⟨e1, e2⟩
        · rw [e1, e2]; exact go
        · rw [e1, e2]; exact go.symm
      · have mx : ψ x ∈ U.flatMap T := List.mem_flatMap.mpr ⟨x, hx, by simp [T, c1]⟩
        refine .one mx (G.jn x u v (jn_of (fun k e ek he => ⟨k, ek, ?_⟩) jn))
        have := (List.getElem?_eq_some_iff.mp he).1
        rw [List.length_append, List.length_singleton] at this
        rw [List.getElem?_append_left (by omega)] at he
        exact he
  have := most_ge hg F3
  rw [List.length_map, List.length_map] at this
  omega
theorem irange_nums (es : List Ed) : irange 0 (es.length : Int) = (nums es).map (·.1) := by
  apply List.ext_getElem?
  intro i
  rw [List.getElem?_map]
  unfold irange
  rw [List.getElem?_map]
  cases h : (nums es)[i]? with
  | none =>
    rw [List.getElem?_eq_none_iff, nums_len] at h
    rw [List.getElem?_eq_none (by rw [List.length_range]; omega)]
    rfl
  | some x =>
    have hl : i < es.length := by
      have := (List.getElem?_eq_some_iff.mp h).1
      rwa [nums_len] at this
    rw [List.getElem?_range (by omega)]
    have := (nums_at h).1
    simp
    omega
theorem wo_into (es : List Ed) (us : List Int) : ∃ χ : Int → Int, (∀ i a b, i ∉ us → Jn es i a b → Jn (wo es us) (χ i) a b) ∧ (∀ i j a b c d, i ∉ us → j ∉ us → Jn es i a b → Jn es j c d → χ i = χ j → i = j) ∧ ∀ i a b, i ∉ us → Jn es i a b → 0 ≤ χ i ∧ χ i < (wo es us).length := by
  have hlen : (woNums es us).length = (wo es us).length := by unfold woNums wo; rw [List.length_map, List.length_map]
  have mem : ∀ i a b, i ∉ us → Jn es i a b → i ∈ woNums es us := fun i a b hi h => by
    obtain ⟨k, e, h1, h2, _⟩ := h
    exact List.mem_map.mpr ⟨(i, e), List.mem_filter.mpr ⟨mem_nums.mpr ⟨k, h1, h2⟩, by simp [hi]⟩, rfl⟩
  have at_ : ∀ i, i ∈ woNums es us → (woNums es us)[(woNums es us).idxOf i]? = some i := fun i hi => by
    have hl := List.idxOf_lt_length_of_mem hi
    rw [List.getElem?_eq_getElem hl]
    simp
  refine ⟨fun i => ((woNums es us).idxOf i : Int), fun i a b hi h => ?_, fun i j a b c d hi hj h k e => ?_, fun i a b hi h => ?_⟩
  · refine jn_of (fun k e ek he => ⟨(woNums es us).idxOf i, rfl, ?_⟩) h
    have h1 := at_ i (mem i a b hi h)
    have hl := (List.getElem?_eq_some_iff.mp h1).1
    rw [hlen] at hl
    have h2 : (wo es us)[(woNums es us).idxOf i]? = some ((wo es us)[(woNums es us).idxOf i]'hl) := List.getElem?_eq_getElem hl
    obtain ⟨x, q1, _, j, q2, q3⟩ := wo_back h2
    rw [h1] at q1
    cases q1
    have : j = k := by omega
    rw [this, he] at q3
    rw [h2, ← q3]
  · have e : (woNums es us).idxOf i = (woNums es us).idxOf j := Int.ofNat.inj e
    have h1 := at_ i (mem i a b hi h)
    have h2 := at_ j (mem j c d hj k)
    rw [e, h2] at h1
    exact (Option.some.inj h1).symm
  · have h1 := at_ i (mem i a b hi h)
    have hl := (List.getElem?_eq_some_iff.mp h1).1
    rw [hlen] at hl
    show 0 ≤ (((woNums es us).idxOf i : Nat) : Int) ∧ (((woNums es us).idxOf i : Nat) : Int) < _
    omega
theorem run_at {es : List Ed} {ms : List Int} {v : Int} (nv' : v ∉ ms) : ∀ {m : Int} {q w : List Int}, Run es ms m q w → (m :: q).Nodup → v ∈ q → ∃ i j a b w1 w2, w = w1 ++ i :: j :: w2 ∧ Jn es i a v ∧ Jn es j v b ∧ a ≠ b ∧ Rch es w1 m a ∧ Rch es w2 b (lastI (m :: q)) := by
  intro m q w h
  induction h with
  | @stop a v' i jn hv =>
    intro _ hm
    rw [List.mem_singleton] at hm
    exact absurd (hm ▸ hv) nv'
  | @go a0 v1 i0 q w jn hv rn ih =>
    intro nd hm
    by_cases e : v = v1
    · subst e
      cases rn with
      | @stop _ b j jn2 hb =>
        refine ⟨i0, j, a0, b, [], [], rfl, jn, jn2, fun z => ?_, .refl _, by rw [lastI_cons, lastI_cons]; exact .refl _⟩
        subst z
        simp at nd
      | @go _ b j q2 w2 jn2 hb rn2 =>
        refine ⟨i0, j, a0, b, [], w2, rfl, jn, jn2, fun z => ?_, .refl _, by rw [lastI_cons, lastI_cons]; exact (run_rch rn2).1⟩
        subst z
        simp at nd
    · rcases List.mem_cons.mp hm with z | z
      · exact absurd z e
      · obtain ⟨i, j, a, b, w1, w2, h1, h2, h3, h4, h5, h6⟩ := ih (List.nodup_cons.mp nd).2 z
        refine ⟨i, j, a, b, i0 :: w1, w2, by rw [h1]; rfl, h2, h3, h4, .step (by simp) jn (h5.mono fun x hx => List.mem_cons_of_mem _ hx), by rw [lastI_cons]; exact h6⟩
theorem run_ends {es : List Ed} {ms : List Int} {m : Int} {q w : List Int} (h : Run es ms m q w) : ∀ x ∈ w, ∀ c d, Jn es x c d → c ∈ m :: q := by
  induction h with
  | @stop a v i jn hv =>
    intro x hx c d jc
    rw [List.mem_singleton] at hx
    subst hx
    rcases jc.ends jn with z | z <;> simp [z.1]
  | @go a v i q w jn hv rn ih =>
    intro x hx c d jc
    rcases List.mem_cons.mp hx with z | z
    · subst z
      rcases jc.ends jn with z | z <;> simp [z.1]
    · exact List.mem_cons_of_mem _ (ih x z c d jc)
theorem run_has {es : List Ed} {ms : List Int} {m : Int} {q w : List Int} (h : Run es ms m q w) : ∀ x ∈ w, ∃ c d, Jn es x c d := by
  induction h with
  | @stop a v i jn hv =>
    intro x hx
    rw [List.mem_singleton] at hx
    subst hx
    exact ⟨_, _, jn⟩
  | @go a v i q w jn hv rn ih =>
    intro x hx
    rcases List.mem_cons.mp hx with z | z
    · subst z; exact ⟨_, _, jn⟩
    · exact ih x z
/-- sets of other numbers: as many paths without some edges -/
theorem most_wo {n : Int} {es : List Ed} (hg : VG n es) {us ms : List Int} {Us : List (List Int)} (F : Fam es ms Us) (hj : ∀ U ∈ Us, ∀ x ∈ U, x ∉ us ∧ ∃ c d, Jn es x c d) : Us.length ≤ (sysN (wo es us) ms).length := by
  obtain ⟨χ, c1, c2, c3⟩ := wo_into es us
  have F1 : Fam (wo es us) ms (Us.map (·.map χ)) := by
    refine ⟨?_, fun V hV => ?_⟩
    · rw [List.pairwise_map]
      refine F.pw.imp_of_mem fun {a b} ha hb d x hx hy => ?_
      obtain ⟨u, hu, e1⟩ := List.mem_map.mp hx
      obtain ⟨w, hw, e2⟩ := List.mem_map.mp hy
      obtain ⟨n1, _, _, k1⟩ := hj a ha u hu
      obtain ⟨n2, _, _, k2⟩ := hj b hb w hw
      have := c2 u w _ _ _ _ n1 n2 k1 k2 (e1.trans e2.symm)
      subst this
      exact d u hu hw
    · obtain ⟨U, hU, rfl⟩ := List.mem_map.mp hV
      obtain ⟨a, b, ha, hb, ne, rc⟩ := F.lk U hU
      exact ⟨a, b, ha, hb, ne, Rch.lead (f := id) (fun x hx c d jn => .one (List.mem_map.mpr ⟨x, hx, rfl⟩) (c1 x c d (hj U hU x hx).1 jn)) rc⟩
  have := most_ge (wo_vg hg us) F1
  rw [List.length_map] at this
  exact this
theorem most_wo_le {n : Int} {es : List Ed} (hg : VG n es) (us ms : List Int) : (sysN (wo es us) ms).length ≤ (sysN es ms).length := by
  obtain ⟨φ, E, _⟩ := emb_wo es us
  exact most_mono (wo_vg hg us) hg E fun m h => h
/-- two edges and the others -/
theorem wo_perm {es : List Ed} {i j : Int} (hi : 0 ≤ i ∧ i < es.length) (hj : 0 ≤ j ∧ j < es.length) (ij : i ≠ j) : es.Perm (es[i.toNat]'(by omega) :: es[j.toNat]'(by omega) :: wo es [i, j]) := by
  have p1 := List.filter_append_perm (fun x : Int × Ed => decide (x.1 ∈ [i, j])) (nums es)
  have nd : (nums es).Nodup := List.Pairwise.of_map (·.1) (fun a b h e => h (by rw [e])) (nums_fst_nodup es)
  have two : ((nums es).filter fun x => decide (x.1 ∈ [i, j])).Perm [(i, es[i.toNat]'(by omega)), (j, es[j.toNat]'(by omega))] := by
    refine (List.perm_ext_iff_of_nodup (nd.sublist List.filter_sublist) (by simp; intro e; exact absurd e ij)).mpr fun x => ?_
    rw [List.mem_filter, mem_nums]
    constructor
    · rintro ⟨⟨k, h1, h2⟩, h3⟩
      have hk := (List.getElem?_eq_some_iff.mp h2)
      have h3 : x.1 = i ∨ x.1 = j := by simpa using h3
      rcases h3 with z | z
      · have : k = i.toNat := by omega
        subst this
        rw [List.mem_cons]
        exact .inl (Prod.ext z hk.2.symm)
      · have : k = j.toNat := by omega
        subst this
        rw [List.mem_cons, List.mem_singleton]
        exact .inr (Prod.ext z hk.2.symm)
    · intro h
      simp only [List.mem_cons, List.not_mem_nil, or_false] at h
      rcases h with z | z
      · rw [z]
        exact ⟨⟨i.toNat, by show i = _; omega, List.getElem?_eq_getElem (by omega)⟩, by simp⟩
      · rw [z]
        exact ⟨⟨j.toNat, by show j = _; omega, List.getElem?_eq_getElem (by omega)⟩, by simp⟩
  have p2 := (p1.symm.trans (two.append_right _)).map (·.2)
  rw [nums_snd] at p2
  exact p2
def edN (es : List Ed) (i : Int) : Ed := es.getD i.toNat (0, 0)
theorem edN_at {n : Int} {es : List Ed} {i : Int} (h0 : 0 ≤ i) (h1 : i < es.length) : es[i.toNat]'(by omega) = edN es i := by
  unfold edN
  rw [List.getD_eq_getElem?_getD, List.getElem?_eq_getElem (by omega)]
  rfl
theorem edN_get {es : List Ed} {k : Nat} {e : Ed} (h : es[k]? = some e) : edN es (k : Int) = e := by
  unfold edN
  rw [List.getD_eq_getElem?_getD, Int.toNat_natCast, h]
  rfl
/-- the edges with some numbers, and the others -/
theorem wo_permN {es : List Ed} {N : List Int} (nd : N.Nodup) (rg : ∀ i ∈ N, 0 ≤ i ∧ i < es.length) : es.Perm (N.map (edN es) ++ wo es N) := by
  have p1 := List.filter_append_perm (fun x : Int × Ed => decide (x.1 ∈ N)) (nums es)
  have ndn : (nums es).Nodup := List.Pairwise.of_map (·.1) (fun a b h e => h (by rw [e])) (nums_fst_nodup es)
  have two : ((nums es).filter fun x => decide (x.1 ∈ N)).Perm (N.map fun i => (i, edN es i)) := by
    refine (List.perm_ext_iff_of_nodup (ndn.sublist List.filter_sublist) ?_).mpr fun x => ?_
    · exact List.Pairwise.map _ (fun a b h e => h (congrArg Prod.fst e)) nd
    · rw [List.mem_filter, mem_nums, List.mem_map]
      constructor
      · rintro ⟨⟨k, h1, h2⟩, h3⟩
        refine ⟨x.1, by simpa using h3, Prod.ext rfl ?_⟩
        show edN es x.1 = x.2
        rw [h1]
        exact edN_get h2
      · rintro ⟨i, hi, rfl⟩
        have r := rg i hi
        refine ⟨⟨i.toNat, by show i = _; omega, ?_⟩, by simpa using hi⟩
        rw [List.getElem?_eq_getElem (by omega)]
        exact congrArg some (edN_at (n := 0) r.1 r.2)
  have p2 := (p1.symm.trans (two.append_right _)).map (·.2)
  rw [nums_snd, List.map_append, List.map_map] at p2
  exact p2
theorem most_perm {n : Int} {es es' : List Ed} (hg : VG n es) (hg' : VG n es') (p : es.Perm es') (ms : List Int) : (sysN es ms).length = (sysN es' ms).length := by
  obtain ⟨φ, E, _⟩ := emb_perm p
  obtain ⟨ψ, F, _⟩ := emb_perm p.symm
  exact Nat.le_antisymm (most_mono hg hg' E fun m h => h) (most_mono hg' hg F fun m h => h)
theorem filter_take {α : Type} (p : α → Bool) {xs : List α} {i : Nat} {x : α} (h : xs[i]? = some x) : (xs.take (i + 1)).filter p = (xs.take i).filter p ++ (if p x = true then [x] else []) := by
  rw [List.take_add_one, h, List.filter_append]
  congr 1
  cases q : p x <;> simp [q]
/-! ### the edges of a path, in order -/
def stepsOf (p : List Int) : List Ed := (p.zip p.tail).map fun x => mkE x.1 x.2
theorem stepsOf_cons (a v : Int) (q : List Int) : stepsOf (a :: v :: q) = mkE a v :: stepsOf (v :: q) := rfl
theorem mkE_jn {n : Int} {es : List Ed} (hg : VG n es) {i a b : Int} (h : Jn es i a b) : mkE a b = edN es i := by
  obtain ⟨k, e, h1, h2, h3⟩ := h
  have r := hg.ed e (List.mem_of_getElem? h2)
  rw [h1, edN_get h2]
  unfold mkE
  obtain ⟨x, y⟩ := e
  simp only at h3 r
  rcases h3 with ⟨e1, e2⟩ | ⟨e1, e2⟩
  · subst e1 e2
    rw [if_neg (by omega), if_pos (by omega)]
  · subst e1 e2
    rw [if_pos (by omega), if_neg (by omega)]
theorem run_steps {n : Int} {es : List Ed} (hg : VG n es) {ms : List Int} {a : Int} {q w : List Int} (h : Run es ms a q w) : stepsOf (a :: q) = w.map (edN es) := by
  induction h with
  | @stop a v i jn hv => rw [stepsOf_cons, mkE_jn hg jn]; rfl
  | @go a v i q w jn hv rn ih => rw [stepsOf_cons, mkE_jn hg jn, ih]; rfl
theorem row_steps {n : Int} {es : List Ed} (hg : VG n es) {ms : List Int} {r : Rw} (h : r ∈ evN es ms) : stepsOf r.1 = r.2.map (edN es) := by
  obtain ⟨m, q, hm, e1, rn, _⟩ := row_run h
  rw [e1]
  exact run_steps hg rn
/-- the system's edges, by numbers -/
theorem sys_nums {n : Int} {es : List Ed} (hg : VG n es) (ms : List Int) : ∃ (s : List Rw) (N : List Int), sysN es ms = s.map (·.1) ∧ (∀ r ∈ s, r ∈ evN es ms) ∧ s.Pairwise DJ ∧ N = s.flatMap (·.2) ∧ N.Nodup ∧ (∀ i ∈ N, 0 ≤ i ∧ i < es.length) ∧ (sysN es ms).flatMap stepsOf = N.map (edN es) := by
  obtain ⟨s, h1, h2, h3⟩ := sys_rows hg ms
  refine ⟨s, _, h1, h2, h3, rfl, ?_, fun i hi => ?_, ?_⟩
  · have key : ∀ l : List Rw, (∀ r ∈ l, r ∈ evN es ms) → l.Pairwise DJ → (l.flatMap (·.2)).Nodup := by
      intro l
      induction l with
      | nil => intro _ _; exact List.nodup_nil
      | cons r l ih =>
        intro h pw
        rw [List.pairwise_cons] at pw
        rw [List.flatMap_cons, List.nodup_append]
        refine ⟨(ev_ok (h r (by simp))).nd, ih (fun x hx => h x (List.mem_cons_of_mem _ hx)) pw.2, fun a ha b hb e => ?_⟩
        obtain ⟨u, hu, hub⟩ := List.mem_flatMap.mp hb
        exact pw.1 u hu a ha (e ▸ hub)
    exact key s h2 h3
  · obtain ⟨r, hr, hi⟩ := List.mem_flatMap.mp hi
    exact (ev_ok (h2 r hr)).rg i hi
  · rw [h1, List.flatMap_map, List.map_flatMap]
    have : ∀ l : List Rw, (∀ r ∈ l, r ∈ evN es ms) → l.flatMap (fun r => stepsOf r.1) = l.flatMap fun r => r.2.map (edN es) := by
      intro l
      induction l with
      | nil => intro _; rfl
      | cons r l ih =>
        intro h
        rw [List.flatMap_cons, List.flatMap_cons, row_steps hg (h r (by simp)), ih fun x hx => h x (List.mem_cons_of_mem _ hx)]
    exact this s h2
theorem sys_perm {n : Int} {es : List Ed} (hg : VG n es) (ms : List Int) : ∃ W, es.Perm ((sysN es ms).flatMap stepsOf ++ W) := by
  obtain ⟨s, N, _, _, _, _, nd, rg, e⟩ := sys_nums hg ms
  exact ⟨wo es N, by rw [e]; exact wo_permN nd rg⟩
/-- a path: what the check asks -/
structure PathOk (n : Int) (es : List Ed) (ms : List Int) (p : List Int) : Prop where
  two : 2 ≤ p.length
  rg : ∀ v ∈ p, 0 ≤ v ∧ v ≤ n - 1
  nd : p.Nodup
  hd : ∀ v, p.head? = some v → v ∈ ms
  ls : lastI p ∈ ms
  mid : ∀ v ∈ p.tail.dropLast, v ∉ ms
  st : ∀ e ∈ stepsOf p, e ∈ es
theorem run_mid {es : List Ed} {ms : List Int} {a : Int} {q w : List Int} (h : Run es ms a q w) : ∀ v ∈ q.dropLast, v ∉ ms := by
  induction h with
  | @stop a v i jn hv => intro x hx; simp at hx
  | @go a v i q w jn hv rn ih =>
    intro x hx
    have ne : q ≠ [] := (run_rch rn).2.2
    rw [List.dropLast_cons_of_ne_nil ne] at hx
    rcases List.mem_cons.mp hx with z | z
    · rw [z]; exact hv
    · exact ih x z
theorem row_path {n : Int} {es : List Ed} (hg : VG n es) {ms : List Int} {r : Rw} (h : r ∈ evN es ms) : PathOk n es ms r.1 := by
  have st := row_steps hg h
  obtain ⟨m, q, hm, e1, rn, nd, _⟩ := row_run h
  have hr := run_rch rn
  refine ⟨?_, fun v hv => ?_, ?_, fun v hv => ?_, ?_, ?_, fun e he => ?_⟩
  · rw [e1, List.length_cons]
    have := List.length_pos_iff.mpr hr.2.2
    omega
  · rw [e1] at hv
    have := run_vs hg rn v hv
    omega
  · rw [e1]; exact nd
  · rw [e1] at hv
    cases hv
    exact hm
  · rw [e1]; exact hr.2.1
  · rw [e1]; exact run_mid rn
  · rw [st] at he
    obtain ⟨i, hi, rfl⟩ := List.mem_map.mp he
    have rg := (ev_ok h).rg i hi
    rw [← edN_at (n := n) rg.1 rg.2]
    exact List.getElem_mem _
theorem sys_path {n : Int} {es : List Ed} (hg : VG n es) (ms : List Int) : ∀ p ∈ sysN es ms, PathOk n es ms p := fun p hp => by
  obtain ⟨s, h1, h2, _⟩ := sys_rows hg ms
  rw [h1] at hp
  obtain ⟨r, hr, rfl⟩ := List.mem_map.mp hp
  exact row_path hg (h2 r hr)
/-- the edges of a path, one after the other -/
theorem steps_at {p : List Int} {k : Nat} {e : Ed} (h : (stepsOf p)[k]? = some e) : ∃ a b, p[k]? = some a ∧ p[k + 1]? = some b ∧ e = mkE a b := by
  unfold stepsOf at h
  rw [List.getElem?_map, List.zip, List.getElem?_zipWith, List.getElem?_tail] at h
  cases q1 : p[k]? with
  | none => rw [q1] at h; cases h
  | some a =>
    cases q2 : p[k + 1]? with
    | none => rw [q1, q2] at h; cases h
    | some b =>
      rw [q1, q2] at h
      exact ⟨a, b, rfl, rfl, (Option.some.inj h).symm⟩
theorem steps_len' (p : List Int) (h : 1 ≤ p.length) : (stepsOf p).length = p.length - 1 := by
  unfold stepsOf
  rw [List.length_map, List.length_zip, List.length_tail]
  omega
def erAll (xs : List Ed) (es : List Ed) : List Ed := xs.foldl (fun l e => l.erase e) es
theorem er_perm : ∀ {xs es W : List Ed}, es.Perm (xs ++ W) → (erAll xs es).Perm W
  | [], es, W, h => h
  | x :: xs, es, W, h => by
    have h : es.Perm (x :: (xs ++ W)) := h
    have h2 : (es.erase x).Perm (xs ++ W) := by
      have := h.erase x
      rwa [List.erase_cons_head] at this
    show (erAll xs (es.erase x)).Perm W
    exact er_perm h2
theorem er_mem {xs ys es W : List Ed} {x : Ed} (h : es.Perm (xs ++ x :: ys ++ W)) : x ∈ erAll xs es := by
  have h : es.Perm (xs ++ (x :: ys ++ W)) := by rwa [List.append_assoc] at h
  exact (er_perm h).mem_iff.mpr (by simp)
theorem er_snoc (xs : List Ed) (x : Ed) (es : List Ed) : erAll (xs ++ [x]) es = (erAll xs es).erase x := by
  unfold erAll
  rw [List.foldl_append]
  rfl
def pathB (n : Int) (es : List Ed) (ms p : List Int) : Bool := decide (2 ≤ p.length) && ((p.all fun v => decide (0 ≤ v ∧ v ≤ n - 1)) && (decide ((usort p).length = p.length) && (decide (p.headD 0 ∈ ms) && (decide (lastI p ∈ ms) && ((p.tail.dropLast.all fun v => !decide (v ∈ ms)) && ((p.zip p.tail).all fun x => decide (mkE x.1 x.2 ∈ es)))))))
theorem cut_mid {α : Type} (xs : List α) (h : 2 ≤ xs.length) : cutD xs (some 1) (some (-1)) = xs.tail.dropLast := by
  unfold cutD
  have e1 : HT.sIx xs.length 0 (some 1) = 1 := by
    unfold HT.sIx
    simp
    omega
  have e2 : HT.sIx xs.length xs.length (some (-1)) = xs.length - 1 := by
    unfold HT.sIx
    simp
    omega
  rw [e1, e2, List.dropLast_eq_take, List.length_tail, List.drop_one]
theorem f_is_path_of (n : Int) (es : List Ed) (ms p : List Int) (small : p.length < 64) : F_is_path_of [dG n es, dT ms, dT p] = .ok (.bool (pathB n es ms p)) := by
  have g0 : ixD (dG n es) (.int 0) = .ok (.int n) := by simp [dG]
  have g1 : ixD (dG n es) (.int 1) = .ok (.tuple (es.map dE)) := by simp [dG, dEs]
  have s2 : szOk 2 = .ok () := szOk_lt (by omega)
  have sq : seqD (dT p) = .ok (p.map .int) := by simp [dT]
  have ln : lenD (dT p) = .ok (.int p.length) := by simp [dT]
  have sI : setI (dT p) = some p := setI_t small
  have it : isT (dT p) = true := rfl
  have ns : notScr (dT p) = .ok () := rfl
  rw [u_is_path_of, S_is_path_of]
  by_cases c1 : 2 ≤ p.length
  · have c1' : ¬ (p.length : Int) < 2 := by omega
    obtain ⟨L1, cr, q1⟩ : ∃ L1 : List PyData, comp (gN 3) (bNot (tru (eCallN F_in_range (eCons (eVar 3) (eCons (eC (.int 0)) (eCons (e2 subD (e2 ixD (eVarS 0) (eC (.int 0))) (eC (.int 1))) eNil)))))) (eVar 3) [.val (dG n es), .val (dT ms), .val (dT p), .no, .no, .no] (p.map .int) = .ok L1 ∧ L1.isEmpty = (p.all fun v => decide (0 ≤ v ∧ v ≤ n - 1)) :=
      ⟨_, comp_is (enc := PyData.int) (fun v => !decide (0 ≤ v ∧ v ≤ n - 1)) PyData.int fun v _ => ⟨_, rfl, by simp [g0, f_in_range], fun _ => by simp⟩, by rw [List.isEmpty_map, filter_none]; simp⟩
    have hd : ixD (dT p) (.int 0) = .ok (.int (p.headD 0)) := by
      cases p with
      | nil => simp at c1
      | cons a p => simp [dT]
    have ls : ixD (dT p) (.int (-1)) = .ok (.int (lastI p)) := by
      have := at_last (p := p) (by intro z; rw [z] at c1; simp at c1)
      simpa [dT] using this
    have n1 : niD (.int (p.headD 0)) (dT ms) = .ok (.bool !(decide (p.headD 0 ∈ ms))) := niT _ _
    have n2 : niD (.int (lastI p)) (dT ms) = .ok (.bool !(decide (lastI p ∈ ms))) := niT _ _
    obtain ⟨M, sm, sqm, hM⟩ : ∃ M : PyData, slD (dT p) (some 1) (some (-1)) = .ok M ∧ seqD M = .ok (p.tail.dropLast.map .int) ∧ True := by
      refine ⟨_, rfl, ?_, trivial⟩
      show Res.ok (cutD (p.map PyData.int) (some 1) (some (-1))) = _
      rw [cut_mid _ (by rw [List.length_map]; exact c1), ← List.map_tail, ← List.map_dropLast]
    obtain ⟨L2, cm, q2⟩ : ∃ L2 : List PyData, comp (gN 3) (tst (e2 inD (eVarS 3) (eVarS 1))) (eVar 3) [.val (dG n es), .val (dT ms), .val (dT p), .no, .no, .no] (p.tail.dropLast.map .int) = .ok L2 ∧ L2.isEmpty = (p.tail.dropLast.all fun v => !decide (v ∈ ms)) :=
      ⟨_, comp_is (enc := PyData.int) (fun v => decide (v ∈ ms)) PyData.int fun v _ => ⟨_, rfl, by simp [dT], fun _ => by simp⟩, by rw [List.isEmpty_map, filter_none]⟩
    obtain ⟨T, st, zd⟩ : ∃ T : PyData, slD (dT p) (some 1) none = .ok T ∧ zipD [dT p, T] = .ok ((p.zip p.tail).map fun x => pr2 (.int x.1) (.int x.2)) := by
      refine ⟨_, rfl, ?_⟩
      rw [cut_1, List.drop_one, ← List.map_tail]
      show Res.ok (List.zipWith pr2 (p.map .int) (p.tail.map .int)) = _
      rw [zip_map]
    obtain ⟨L3, cz, q3⟩ : ∃ L3 : List PyData, comp (gN2 4 5) (tst (e2 niD (eTup (eCons (eCall (call2 min2D) (eCons (eVarS 4) (eCons (eVarS 5) eNil))) (eCons (eCall (call2 max2D) (eCons (eVarS 4) (eCons (eVarS 5) eNil))) eNil))) (e2 ixD (eVarS 0) (eC (.int 1))))) (eC (.int 1)) [.val (dG n es), .val (dT ms), .val (dT p), .no, .no, .no] ((p.zip p.tail).map fun x => pr2 (.int x.1) (.int x.2)) = .ok L3 ∧ L3.isEmpty = ((p.zip p.tail).all fun x => decide (mkE x.1 x.2 ∈ es)) :=
      ⟨_, comp_is (enc := fun x : Int × Int => pr2 (.int x.1) (.int x.2)) (fun x => !decide (mkE x.1 x.2 ∈ es)) (fun _ => .int 1) fun x _ => ⟨_, rfl, by simp [s2, mkE_d, g1], fun _ => by simp⟩, by rw [List.isEmpty_map, filter_none]; simp⟩
    have c3 : neD (.int ((usort p).length : Int)) (.int (p.length : Int)) = .ok (.bool !(decide ((usort p).length = p.length))) := by
      rw [neD_i]
      by_cases z : (usort p).length = p.length
      · simp [z]
      · have z' : ¬ ((usort p).length : Int) = (p.length : Int) := by omega
        simp [z, z']
    unfold pathB
    rw [decide_eq_true c1]
    generalize (p.all fun v => decide (0 ≤ v ∧ v ≤ n - 1)) = b1 at q1 ⊢
    generalize (p.tail.dropLast.all fun v => !decide (v ∈ ms)) = b2 at q2 ⊢
    generalize ((p.zip p.tail).all fun x => decide (mkE x.1 x.2 ∈ es)) = b3 at q3 ⊢
    generalize decide ((usort p).length = p.length) = b4 at c3 ⊢
    generalize decide (p.headD 0 ∈ ms) = b5 at n1 ⊢
    generalize decide (lastI p ∈ ms) = b6 at n2 ⊢
    generalize p.headD 0 = h0 at hd n1
    generalize lastI p = l0 at ls n2
    generalize (p.zip p.tail).map (fun x => pr2 (.int x.1) (.int x.2)) = Z at zd cz
    generalize p.tail.dropLast.map PyData.int = Y at sqm cm
    simp only [ev_seq, ev_sIf, ev_bOr, ev_bNot, ev_tru, ev_isi, ev_varS, List.getElem?_cons_zero, List.getElem?_cons_succ, slS_val, bind_ok, ns, it, truD_b, Bool.not_true, Bool.false_eq_true, if_false, ev_tst, ev_2, ev_call, ev_cons, ev_nil, call1_1, ln, ev_C, ltD_i, decide_eq_false c1', boolD_b, ofR_ok, ev_sNil, seqR_nx, ev_list, ev_lcA, ev_iSeq, sq, isNo_no, if_true, cr, truD_l, q1, ev_lset, sI, c3, hd, n1, ev_neg, negD_i, ls, n2, ev_sl, ev_oSome, intD_i, sm, sqm, cm, q2, ev_eNotT, ev_lcB, ev_zip, ev_var, slV_val, ev_oNone, st, zd, Bool.and_self, cz, q3, ev_sRet, runR_ret, seqR_ret]
    cases b1 <;> cases b4 <;> cases b5 <;> cases b6 <;> cases b2 <;> cases b3 <;> simp [runR_ret, seqR_ret, sm, sqm, cm, q2, st, zd, cz, q3, ls, n2, hd, n1]
  · have c1' : (p.length : Int) < 2 := by omega
    simp [it, ns, ln, c1', pathB, c1]
theorem nodup_of_len : ∀ {xs ys : List Int}, ys.Nodup → (∀ y ∈ ys, y ∈ xs) → xs.length ≤ ys.length → xs.Nodup
  | [], _, _, _, _ => List.nodup_nil
  | x :: xs, ys, nd, sub, le => by
    rw [List.length_cons] at le
    by_cases hx : x ∈ xs
    · exfalso
      have : ys.length ≤ xs.length := nodup_len nd fun y hy => by
        rcases List.mem_cons.mp (sub y hy) with z | z
        · rw [z]; exact hx
        · exact z
      omega
    · rw [List.nodup_cons]
      refine ⟨hx, nodup_of_len (ys := ys.erase x) (nd.erase x) (fun y hy => ?_) ?_⟩
      · have h1 := List.mem_of_mem_erase hy
        rcases List.mem_cons.mp (sub y h1) with z | z
        · rw [z] at hy
          exact absurd hy (List.Nodup.not_mem_erase nd)
        · exact z
      · have := List.length_erase_le (a := x) (l := ys)
        have h2 : ys.length ≤ (ys.erase x).length + 1 := by
          rw [List.length_erase]
          split <;> omega
        omega
theorem pathB_iff {n : Int} {es : List Ed} {ms p : List Int} : pathB n es ms p = true ↔ 2 ≤ p.length ∧ (∀ v ∈ p, 0 ≤ v ∧ v ≤ n - 1) ∧ p.Nodup ∧ p.headD 0 ∈ ms ∧ lastI p ∈ ms ∧ (∀ v ∈ p.tail.dropLast, v ∉ ms) ∧ ∀ x ∈ p.zip p.tail, mkE x.1 x.2 ∈ es := by
  unfold pathB
  simp only [Bool.and_eq_true, decide_eq_true_eq, List.all_eq_true, Bool.not_eq_true', decide_eq_false_iff_not]
  have nd : (usort p).length = p.length ↔ p.Nodup := by
    constructor
    · intro h
      have p1 : (usort p).Nodup := asc_nodup (usort_lt p)
      exact nodup_of_len p1 (fun x hx => mem_usort.mp hx) (Nat.le_of_eq h.symm)
    · intro h
      exact (usort_len h fun k => Iff.rfl).symm
  rw [nd]
theorem PathOk.b {n : Int} {es : List Ed} {ms p : List Int} (h : PathOk n es ms p) : pathB n es ms p = true := by
  rw [pathB_iff]
  refine ⟨h.two, h.rg, h.nd, ?_, h.ls, h.mid, fun x hx => h.st _ (List.mem_map.mpr ⟨x, hx, rfl⟩)⟩
  have two := h.two
  have hd := h.hd
  cases p with
  | nil => simp at two
  | cons a p => exact hd a rfl
def stepsB (es : List Ed) (steps : List Ed) : Bool := steps.all fun e => decide (steps.count e ≤ es.count e)
theorem steps_len (p : List Int) : (stepsOf p).length ≤ p.length := by
  unfold stepsOf
  rw [List.length_map, List.length_zip]
  omega
theorem steps_all {ps : List (List Int)} (small : ∀ p ∈ ps, p.length < 64) : (ps.flatMap stepsOf).length ≤ ps.length * 64 := by
  induction ps with
  | nil => simp
  | cons p ps ih =>
    have a := ih fun q hq => small q (List.mem_cons_of_mem _ hq)
    have b := small p (by simp)
    have c := steps_len p
    rw [List.flatMap_cons, List.length_append, List.length_cons, Nat.succ_mul]
    omega
theorem f_is_system {n : Int} {es : List Ed} {ms : List Int} (hg : VG n es) (hm : VM n ms) (ps : List (List Int)) (small : ∀ p ∈ ps, p.length < 64) (few : ps.length ≤ 1000) : F_is_system [dG n es, dT ms, dC ps] = .ok (.bool ((ps.all (pathB n es ms)) && stepsB es (ps.flatMap stepsOf))) := by
  have g1 : ixD (dG n es) (.int 1) = .ok (.tuple (es.map dE)) := by simp [dG, dEs]
  have s2 : szOk 2 = .ok () := szOk_lt (by omega)
  have cm := f_check_marks hg hm
  have sq : seqD (dC ps) = .ok (ps.map dT) := by simp [dC]
  have it : isT (dC ps) = true := rfl
  have ns : notScr (dC ps) = .ok () := rfl
  obtain ⟨L1, c1, q1⟩ : ∃ L1 : List PyData, comp (gN 3) (bNot (tru (eCallN F_is_path_of (eCons (eVar 0) (eCons (eVar 1) (eCons (eVar 3) eNil)))))) (eVar 3) [.val (dG n es), .val (dT ms), .val (dC ps), .no, .no, .no, .no, .no] (ps.map dT) = .ok L1 ∧ L1.isEmpty = ps.all (pathB n es ms) :=
    ⟨_, comp_is (enc := dT) (fun p => !pathB n es ms p) dT fun p hp => ⟨_, rfl, by simp [f_is_path_of n es ms p (small p hp)], fun _ => by simp⟩, by rw [List.isEmpty_map, filter_none]; simp⟩
  obtain ⟨ρ', el, t3, he⟩ := loop_from (enc := dT) (g := gN 3) (S := L_is_system_1) (fun k ρ => ∃ t3 : Sl, ρ = [.val (dG n es), .val (dT ms), .val (dC ps), t3, .own (((ps.take k).flatMap stepsOf).map dE), .no, .no, .no])
    (xs := ps) (ρ := [.val (dG n es), .val (dT ms), .val (dC ps), .no, .own [], .no, .no, .no]) ⟨.no, rfl⟩ (fun k p ρ hx ⟨t3, e⟩ => by
      subst e
      have hp := List.mem_of_getElem? hx
      have sp := small p hp
      rw [flatMap_take _ hx]
      have lz := steps_all (ps := ps.take k) fun q hq => small q (List.mem_of_mem_take hq)
      have tk : (ps.take k).length ≤ 1000 := by rw [List.length_take]; omega
      have lp := steps_len p
      generalize (ps.take k).flatMap stepsOf = fs at lz
      refine ⟨[.val (dG n es), .val (dT ms), .val (dC ps), .val (dT p), .own ((fs ++ stepsOf p).map dE), .no, .no, .no], ?_, _, rfl⟩
      obtain ⟨T, st, zd⟩ : ∃ T : PyData, slD (dT p) (some 1) none = .ok T ∧ zipD [dT p, T] = .ok ((p.zip p.tail).map fun x => pr2 (.int x.1) (.int x.2)) := by
        refine ⟨_, rfl, ?_⟩
        rw [cut_1, List.drop_one, ← List.map_tail]
        show Res.ok (List.zipWith pr2 (p.map .int) (p.tail.map .int)) = _
        rw [zip_map]
      have cz : comp (gN2 5 6) bYes (eTup (eCons (eCall (call2 min2D) (eCons (eVarS 5) (eCons (eVarS 6) eNil))) (eCons (eCall (call2 max2D) (eCons (eVarS 5) (eCons (eVarS 6) eNil))) eNil))) [.val (dG n es), .val (dT ms), .val (dC ps), .val (dT p), .own (fs.map dE), .no, .no, .no] ((p.zip p.tail).map fun x => pr2 (.int x.1) (.int x.2)) = .ok ((stepsOf p).map dE) := by
        rw [comp_all (enc := fun x : Int × Int => pr2 (.int x.1) (.int x.2)) (fun x => dE (mkE x.1 x.2)) fun x _ => ⟨_, rfl, by simp [s2, mkE_d]⟩]
        unfold stepsOf
        rw [List.map_map]
        rfl
      have lt : (fs.map dE).length + ((stepsOf p).map dE).length ≤ 16000000 := by
        rw [List.length_map, List.length_map]
        omega
      generalize (p.zip p.tail).map (fun x => pr2 (.int x.1) (.int x.2)) = Z at zd cz
      simp [L_is_system_1, st, zd, cz, extR_own lt])
  subst he
  rw [List.take_length] at el
  obtain ⟨L2, c2, q2⟩ : ∃ L2 : List PyData, comp (gN 7) (tst (e2 gtD (eCntL (eVarS 4) (eVar 7)) (eCntT (e2 ixD (eVarS 0) (eC (.int 1))) (eVar 7)))) (eVar 7) [.val (dG n es), .val (dT ms), .val (dC ps), t3, .own ((ps.flatMap stepsOf).map dE), .no, .no, .no] ((ps.flatMap stepsOf).map dE) = .ok L2 ∧ L2.isEmpty = stepsB es (ps.flatMap stepsOf) := by
    refine ⟨_, comp_is (enc := dE) (fun e => !decide ((ps.flatMap stepsOf).count e ≤ es.count e)) dE fun e _ => ⟨_, rfl, ?_, fun _ => by simp⟩, by rw [List.isEmpty_map, filter_none]; unfold stepsB; simp⟩
    simp [cntD_dE, g1]
    rw [Bool.eq_iff_iff]
    simp
  generalize (ps.flatMap stepsOf).map dE = Z at el c2
  rw [u_is_system, S_is_system]
  generalize ps.all (pathB n es ms) = b1 at q1 ⊢
  generalize stepsB es (ps.flatMap stepsOf) = b2 at q2 ⊢
  cases b1
  · simp [cm, it, ns, sq, c1, q1]
  · cases b2 <;> simp [cm, it, ns, sq, c1, q1, el, c2, q2]
theorem perm_stepsB {es steps W : List Ed} (h : es.Perm (steps ++ W)) : stepsB es steps = true := by
  unfold stepsB
  rw [List.all_eq_true]
  intro e _
  rw [decide_eq_true_eq, h.count_eq, List.count_append]
  omega
theorem path_small {n : Int} {es : List Ed} (hg : VG n es) {ms p : List Int} (h : PathOk n es ms p) : p.length < 64 := by
  have := nodup_len h.nd (ys := irange 0 n) fun v hv => mem_irange.mpr (by have := h.rg v hv; omega)
  rw [len_irange] at this
  have := hg.hi
  omega
theorem sys_few {n : Int} {es : List Ed} (hg : VG n es) (ms : List Int) : (sysN es ms).length ≤ 9 := by
  obtain ⟨Us, F, hl, rg⟩ := most_fam hg ms
  rw [← hl]
  have key : ∀ Us : List (List Int), Us.Pairwise DL2 → (∀ U ∈ Us, U ≠ [] ∧ U.Nodup ∧ ∀ i ∈ U, 0 ≤ i ∧ i < es.length) → ∃ is : List Int, is.length = Us.length ∧ is.Nodup ∧ ∀ i ∈ is, (0 ≤ i ∧ i < es.length) ∧ ∃ U ∈ Us, i ∈ U := by
    intro Us
    induction Us with
    | nil => intro _ _; exact ⟨[], rfl, List.nodup_nil, fun _ h => nomatch h⟩
    | cons U Us ih =>
      intro pw h
      rw [List.pairwise_cons] at pw
      obtain ⟨is, h1, h2, h3⟩ := ih pw.2 fun V hV => h V (List.mem_cons_of_mem _ hV)
      obtain ⟨ne, _, r⟩ := h U (by simp)
      obtain ⟨x, hx⟩ := List.exists_mem_of_ne_nil U ne
      refine ⟨x :: is, by rw [List.length_cons, List.length_cons, h1], List.nodup_cons.mpr ⟨fun z => ?_, h2⟩, fun i hi => ?_⟩
      · obtain ⟨_, V, hV, hxV⟩ := h3 x z
        exact pw.1 V hV x hx hxV
      · rcases List.mem_cons.mp hi with z | z
        · rw [z]; exact ⟨r x hx, U, by simp, hx⟩
        · obtain ⟨a, V, hV, b⟩ := h3 i z
          exact ⟨a, V, List.mem_cons_of_mem _ hV, b⟩
  obtain ⟨is, h1, h2, h3⟩ := key Us F.pw rg
  have := nodup_len h2 (ys := irange 0 es.length) fun i hi => mem_irange.mpr (h3 i hi).1
  rw [len_irange] at this
  have := hg.len
  omega
theorem f_is_system_sys {n : Int} {es : List Ed} {ms : List Int} (hg : VG n es) (hm : VM n ms) : F_is_system [dG n es, dT ms, dC (sysN es ms)] = .ok (.bool true) := by
  have po := sys_path hg ms
  obtain ⟨W, hW⟩ := sys_perm hg ms
  have few := sys_few hg ms
  rw [f_is_system hg hm (sysN es ms) (fun p hp => path_small hg (po p hp)) (by omega), perm_stepsB hW]
  have : (sysN es ms).all (pathB n es ms) = true := List.all_eq_true.mpr fun p hp => (po p hp).b
  rw [this]
  rfl

/-- a loop that may return -/
theorem loop_chk {α : Type} {enc : α → PyData} {g : PyData → DL.Env → Option DL.Env} {S : DL.Env → RS} (I : Nat → DL.Env → Prop) (p : Nat → α → Bool) (d : PyData) : ∀ {xs : List α} {k : Nat} {ρ : DL.Env}, I k ρ →
    (∀ (i : Nat) (x : α) (ρ : DL.Env), xs[i]? = some x → I (k + i) ρ → (p (k + i) x = true ∧ ∃ ρ2, turn g S (enc x) ρ = .nx ρ2 ∧ I (k + i + 1) ρ2) ∨ (p (k + i) x = false ∧ turn g S (enc x) ρ = .ret d)) →
    ((∀ (i : Nat) (x : α), xs[i]? = some x → p (k + i) x = true) ∧ ∃ ρ', loop g S (xs.map enc) ρ = .nx ρ' ∧ I (k + xs.length) ρ') ∨ ((∃ (i : Nat) (x : α), xs[i]? = some x ∧ p (k + i) x = false ∧ ∀ j y, j < i → xs[j]? = some y → p (k + j) y = true) ∧ loop g S (xs.map enc) ρ = .ret d)
  | [], k, ρ, h, _ => .inl ⟨fun i x hx => by simp at hx, ρ, rfl, h⟩
  | x :: xs, k, ρ, h, hs => by
    rcases hs 0 x ρ rfl h with ⟨hp, ρ2, ht, h2⟩ | ⟨hp, ht⟩
    · have ih := loop_chk I p d (xs := xs) (k := k + 1) (ρ := ρ2) h2 fun i y ρ hy hi => by
        have e : k + 1 + i = k + (i + 1) := by omega
        rw [e] at hi ⊢
        exact hs (i + 1) y ρ (by simpa using hy) hi
      have el : loop g S ((x :: xs).map enc) ρ = loop g S (xs.map enc) ρ2 := by
        unfold turn at ht
        rw [List.map_cons, loop]
        cases q : g (enc x) ρ with
        | none => rw [q] at ht; cases ht
        | some ρ1 => rw [q] at ht; simp only at ht; simp only [ht]
      rw [el]
      have e : ∀ i, k + 1 + i = k + (i + 1) := fun i => by omega
      rcases ih with ⟨a, ρ', b, c⟩ | ⟨⟨i, y, hy, py, hb⟩, b⟩
      · refine .inl ⟨fun i y hy => ?_, ρ', b, by rw [List.length_cons, ← e]; exact c⟩
        cases i with
        | zero => simp at hy; subst hy; exact hp
        | succ i => rw [← e]; exact a i y (by simpa using hy)
      · refine .inr ⟨⟨i + 1, y, by simpa using hy, by rw [← e]; exact py, fun j z hj hz => ?_⟩, b⟩
        cases j with
        | zero => simp at hz; subst hz; exact hp
        | succ j => rw [← e]; exact hb j z (by omega) (by simpa using hz)
    · refine .inr ⟨⟨0, x, rfl, hp, fun j _ hj => absurd hj (by omega)⟩, ?_⟩
      unfold turn at ht
      rw [List.map_cons, loop]
      cases q : g (enc x) ρ with
      | none => rw [q] at ht; cases ht
      | some ρ1 => rw [q] at ht; simp only at ht; simp only [ht]
/-- taken out one by one: each is there -/
def okB : List Ed → List Ed → Bool
  | [], _ => true
  | e :: xs, l => decide (e ∈ l) && okB xs (l.erase e)
theorem okB_append : ∀ (xs ys l : List Ed), okB (xs ++ ys) l = (okB xs l && okB ys (erAll xs l))
  | [], ys, l => by
    show okB ys l = (true && okB ys l)
    rw [Bool.true_and]
  | e :: xs, ys, l => by
    show (decide (e ∈ l) && okB (xs ++ ys) (l.erase e)) = ((decide (e ∈ l) && okB xs (l.erase e)) && okB ys (erAll xs (l.erase e)))
    rw [okB_append xs ys, Bool.and_assoc]
theorem okB_at : ∀ {xs l : List Ed}, okB xs l = true ↔ ∀ (k : Nat) (e : Ed), xs[k]? = some e → e ∈ erAll (xs.take k) l
  | [], l => by simp [okB]
  | x :: xs, l => by
    unfold okB
    rw [Bool.and_eq_true, decide_eq_true_eq, okB_at (xs := xs)]
    constructor
    · rintro ⟨h1, h2⟩ k e hk
      cases k with
      | zero => simp at hk; subst hk; exact h1
      | succ k => exact h2 k e (by simpa using hk)
    · intro h
      exact ⟨h 0 x rfl, fun k e hk => h (k + 1) e (by simpa using hk)⟩
theorem okB_count : ∀ {xs l : List Ed}, okB xs l = true ↔ ∀ e, xs.count e ≤ l.count e
  | [], l => by simp [okB]
  | x :: xs, l => by
    unfold okB
    rw [Bool.and_eq_true, decide_eq_true_eq, okB_count (xs := xs)]
    constructor
    · rintro ⟨h1, h2⟩ e
      have := h2 e
      rw [List.count_erase] at this
      rw [List.count_cons]
      have pos := List.count_pos_iff.mpr h1
      by_cases c : x = e
      · subst c
        simp at this ⊢
        omega
      · have b1 : (x == e) = false := by simpa using c
        simp [b1] at this ⊢
        exact this
    · intro h
      have h1 : x ∈ l := List.count_pos_iff.mp (by
        have := h x
        rw [List.count_cons] at this
        simp at this
        omega)
      refine ⟨h1, fun e => ?_⟩
      have := h e
      rw [List.count_cons] at this
      rw [List.count_erase]
      by_cases c : x = e
      · subst c
        simp at this ⊢
        omega
      · have b1 : (x == e) = false := by simpa using c
        simp [b1] at this ⊢
        exact this
theorem okB_steps (xs l : List Ed) : okB xs l = stepsB l xs := by
  rw [Bool.eq_iff_iff, okB_count]
  unfold stepsB
  rw [List.all_eq_true]
  constructor
  · intro h e _
    exact decide_eq_true (h e)
  · intro h e
    by_cases c : e ∈ xs
    · exact of_decide_eq_true (h e c)
    · rw [List.count_eq_zero.mpr c]
      exact Nat.zero_le _
/-- one digit -/
def digS (i : Int) : Str := ⟨#[48 + i.toNat]⟩
theorem num_dig {i : Int} (h0 : 0 ≤ i) (h1 : i ≤ 9) : (Str.ofString (toString i)) = digS i := by
  have e : i = ((i.toNat : Nat) : Int) := by omega
  rw [e]
  refine TL.ext_tl ?_
  rw [TL.tl_num, TL.numL_lt (by omega)]
  show _ = [48 + ((i.toNat : Nat) : Int).toNat]
  rw [Int.toNat_natCast]
theorem strof_dig {i : Int} (h0 : 0 ≤ i) (h1 : i ≤ 9) : strofD (.int i) = .ok (.str (digS i)) := by
  show (if i.natAbs.log2 < 1920 ∧ (Str.ofString (toString i)).length ≤ sizeLine then Res.ok (PyData.str (Str.ofString (toString i))) else .bad) = _
  rw [num_dig h0 h1, if_pos]
  refine ⟨Nat.lt_of_le_of_lt (Nat.log2_le_self _) (by omega), ?_⟩
  show 1 ≤ sizeLine
  decide
theorem fmt_dig {i : Int} (h0 : 0 ≤ i) (h1 : i ≤ 9) : fmtD (.int i) = .ok (.str (digS i)) := strof_dig h0 h1
theorem fmt_str (z : Str) : fmtD (.str z) = .ok (.str z) := id rfl
def nmS (ms : List Int) : Str := Txt.join "" (ms.map digS)
def edS (e : Ed) : Str := Str.empty ++ digS e.1 ++ "-" ++ digS e.2
def hdS (n : Int) (ms : List Int) : Str := Str.empty ++ digS n ++ "/" ++ nmS ms
def txS (n : Int) (es : List Ed) (ms : List Int) : Str := Txt.join " " (hdS n ms :: es.map edS)
theorem filt_true {α : Type} (xs : List α) : xs.filter (fun _ => true) = xs := List.filter_eq_self.mpr fun _ _ => rfl
theorem len_app (x y : Str) : (x ++ y).length = x.length + y.length := str_add_length x y
theorem len_joinL (S : List Nat) : ∀ ps : List (List Nat), (TL.joinL S ps).length ≤ (ps.map List.length).sum + ps.length * S.length
  | [] => Nat.zero_le _
  | [p] => by simp [TL.joinL]
  | p :: q :: r => by
    have ih := len_joinL S (q :: r)
    rw [TL.joinL]
    simp only [List.length_append, List.map_cons, List.sum_cons, List.length_cons, Nat.add_mul, Nat.one_mul] at ih ⊢
    omega
theorem len_join (y : Str) (zs : List Str) : (Txt.join y zs).length ≤ (zs.map (·.length)).sum + zs.length * y.length := by
  rw [TL.join_eq, TL.len_tl, TL.tl_join]
  have h := len_joinL (TL.tl y) (zs.map TL.tl)
  rw [List.map_map, List.length_map] at h
  have e : (List.length ∘ TL.tl) = (fun z : Str => z.length) := by funext z; exact (TL.len_tl z).symm
  rw [e, ← TL.len_tl] at h
  exact h
theorem joinD_ok {a : Str} {zs : List Str} (h : (zs.map (·.length)).sum + zs.length * a.length ≤ 1000000) : joinD (.str a) (.list (zs.map .str)) = .ok (.str (Txt.join a zs)) := by
  show (Res.ofOpt (strsOf (zs.map PyData.str))).bind (fun zs => if (zs.map (·.length)).sum + zs.length * a.length ≤ 16777216 ∧ (Txt.join a zs).length ≤ sizeLine then Res.ok (PyData.str (Txt.join a zs)) else Res.bad) = Res.ok (PyData.str (Txt.join a zs))
  rw [strsOf_map]
  have := len_join a zs
  show (if (zs.map (·.length)).sum + zs.length * a.length ≤ 16777216 ∧ (Txt.join a zs).length ≤ sizeLine then Res.ok (PyData.str (Txt.join a zs)) else .bad) = _
  rw [if_pos ⟨by omega, by rw [sizeLine_eq]; omega⟩]
theorem sum_const {α : Type} {f : α → Nat} {c : Nat} : ∀ {xs : List α}, (∀ x ∈ xs, f x = c) → (xs.map f).sum = xs.length * c
  | [], _ => by simp
  | x :: xs, h => by
    rw [List.map_cons, List.sum_cons, sum_const fun y hy => h y (List.mem_cons_of_mem _ hy), h x (by simp), List.length_cons, Nat.add_mul]
    omega
theorem len_nm (ms : List Int) : (nmS ms).length ≤ ms.length := by
  have h := len_join "" (ms.map digS)
  rw [List.map_map, sum_const (f := (fun z : Str => z.length) ∘ digS) (c := 1) (fun x _ => rfl), List.length_map] at h
  have e : (Str.ofString "").length = 0 := rfl
  rw [e] at h
  unfold nmS
  omega
theorem len_ed (e : Ed) : (edS e).length = 3 := rfl
theorem len_hd (n : Int) (ms : List Int) : (hdS n ms).length ≤ 2 + ms.length := by
  unfold hdS
  rw [len_app]
  have := len_nm ms
  have e : (Str.empty ++ digS n ++ Str.ofString "/").length = 2 := rfl
  omega
theorem ev_joined3 (f1 f2 f3 : DL.Env → Res PyData) (ρ : DL.Env) (a b c : Str) (h1 : f1 ρ = .ok (.str a)) (h2 : f2 ρ = .ok (.str b)) (h3 : f3 ρ = .ok (.str c)) (hz : a.length + b.length + c.length ≤ 1000) : eJoined [f1, f2, f3] ρ = .ok (.str (Str.empty ++ a ++ b ++ c)) := by
  have e0 : (Str.empty).length = 0 := rfl
  have z := sizeLine_eq
  unfold eJoined
  rw [eJs, h1]
  show (if (Str.empty ++ a).length ≤ sizeLine then eJs [f2, f3] (Str.empty ++ a) ρ else .bad) = _
  rw [if_pos (by rw [len_app]; omega), eJs, h2]
  show (if (Str.empty ++ a ++ b).length ≤ sizeLine then eJs [f3] (Str.empty ++ a ++ b) ρ else .bad) = _
  rw [if_pos (by rw [len_app, len_app]; omega), eJs, h3]
  show (if (Str.empty ++ a ++ b ++ c).length ≤ sizeLine then eJs [] (Str.empty ++ a ++ b ++ c) ρ else .bad) = _
  rw [if_pos (by rw [len_app, len_app, len_app]; omega)]
  rfl
theorem vm_len {n : Int} {ms : List Int} (hn : n ≤ 6) (hm : VM n ms) : ms.length ≤ 6 := by
  have h : ms.length ≤ (List.range 6).length := by
    have nd : (ms.map Int.toNat).Nodup := by
      rw [List.nodup_iff_pairwise_ne, List.pairwise_map]
      refine hm.up.imp_of_mem fun {a b} ha hb hab => ?_
      have := hm.rg a ha
      have := hm.rg b hb
      omega
    have := nodup_len (xs := ms.map Int.toNat) (ys := List.range 6) nd fun x hx => by
      obtain ⟨y, hy, rfl⟩ := List.mem_map.mp hx
      have := hm.rg y hy
      rw [List.mem_range]
      omega
    rw [List.length_map] at this
    exact this
  rw [List.length_range] at h
  exact h
theorem f_text_of {n : Int} {es : List Ed} {ms : List Int} (h : VG n es) (hm : VM n ms) : F_text_of [dG n es, dT ms] = .ok (.str (txS n es ms)) := by
  have hlo := h.lo
  have hhi := h.hi
  have hml := vm_len hhi hm
  have hel := h.len
  rw [u_text_of, S_text_of, dG, dEs, dT]
  simp
  rw [comp_is (enc := PyData.int) (fun _ => true) (fun m => PyData.str (digS m)) fun m hm' => ⟨_, rfl, by simp, fun _ => by have := hm.rg m hm'; simp [strof_dig (i := m) (by omega) (by omega)]⟩]
  have e1 : ((ms.filter fun _ => true).map fun m => PyData.str (digS m)) = (ms.map digS).map PyData.str := by
    rw [filt_true, List.map_map]
    rfl
  have j1 : joinD (.str "") (.list ((ms.map digS).map PyData.str)) = .ok (.str (nmS ms)) := joinD_ok (by
    rw [List.map_map, sum_const (f := (fun z : Str => z.length) ∘ digS) (c := 1) (fun x _ => rfl), List.length_map]
    have e : (Str.ofString "").length = 0 := rfl
    rw [e]
    omega)
  rw [e1]
  simp [-List.map_map, j1]
  rw [ev_joined3 _ _ _ _ (digS n) "/" (nmS ms) (by simp [fmt_dig (i := n) (by omega) (by omega)]) (by simp) (by simp [fmt_str]) (by
    have := len_nm ms
    have e : (digS n).length = 1 := rfl
    have e2 : (Str.ofString "/").length = 1 := rfl
    omega)]
  simp [szOk_lt]
  rw [comp_is (enc := dE) (fun _ => true) (fun e => PyData.str (edS e)) fun e he => ⟨_, rfl, by simp, fun _ => by
    have := h.ed e he
    exact ev_joined3 _ _ _ _ (digS e.1) "-" (digS e.2) (by simp [fmt_dig (i := e.1) (by omega) (by omega)]) (by simp) (by simp [fmt_dig (i := e.2) (by omega) (by omega)]) (by show 3 ≤ 1000; decide)⟩]
  have e2 : PyData.str (hdS n ms) :: ((es.filter fun _ => true).map fun e => PyData.str (edS e)) = (hdS n ms :: es.map edS).map PyData.str := by
    rw [filt_true, List.map_cons, List.map_map]
    rfl
  have j2 : joinD (.str " ") (.list ((hdS n ms :: es.map edS).map PyData.str)) = .ok (.str (txS n es ms)) := joinD_ok (by
    rw [List.map_cons, List.sum_cons, List.map_map, sum_const (f := (fun z : Str => z.length) ∘ edS) (c := 3) (fun x _ => rfl), List.length_cons, List.length_map]
    have := len_hd n ms
    have e : (Str.ofString " ").length = 1 := rfl
    rw [e]
    omega)
  simp
  rw [szOk_lt (by rw [filt_true]; omega)]
  have e3 : Str.empty ++ digS n ++ Str.ofString "/" ++ nmS ms = hdS n ms := rfl
  simp only [e3, bind_ok, e2, j2]
  simp
def plF (n : Int) (es : List Ed) (ms : List Int) (c : PyData) (k : Int) : Fd := [("graph", dG n es), ("marks", dT ms), ("chosen", c), ("kept", .int k)]
def plO (n : Int) (es : List Ed) (ms : List Int) (c : PyData) (k : Int) : PyData := obD "Planner" (plF n es ms c k)
theorem fl_g (n : Int) (es : List Ed) (ms : List Int) (c : PyData) (k : Int) : fldD "graph" (plO n es ms c k) = .ok (dG n es) := by unfold plO; rw [fldD_ob]; rfl
theorem fl_m (n : Int) (es : List Ed) (ms : List Int) (c : PyData) (k : Int) : fldD "marks" (plO n es ms c k) = .ok (dT ms) := by unfold plO; rw [fldD_ob]; rfl
theorem fl_c (n : Int) (es : List Ed) (ms : List Int) (c : PyData) (k : Int) : fldD "chosen" (plO n es ms c k) = .ok c := by unfold plO; rw [fldD_ob]; rfl
theorem fl_k (n : Int) (es : List Ed) (ms : List Int) (c : PyData) (k : Int) : fldD "kept" (plO n es ms c k) = .ok (.int k) := by unfold plO; rw [fldD_ob]; rfl
theorem noKey_ob (m : Str) (fd : Fd) : noKey m (obD "Planner" fd) = (fd.lookup m).isNone := by
  unfold noKey
  rw [isPl_ob]
  simp only [lookK_map]
def pm5 (m : Str) : Bool := !(m == "graph") && (!(m == "marks") && (!(m == "chosen") && !(m == "kept")))
theorem noKey_pl {m : Str} (h : pm5 m = true) (n : Int) (es : List Ed) (ms : List Int) (c : PyData) (k : Int) : noKey m (plO n es ms c k) = true := by
  unfold plO
  rw [noKey_ob]
  unfold pm5 at h
  simp only [Bool.and_eq_true, Bool.not_eq_true'] at h
  unfold plF
  simp [List.lookup_cons, h.1, h.2.1, h.2.2.1, h.2.2.2]
theorem isPl_pl (n : Int) (es : List Ed) (ms : List Int) (c : PyData) (k : Int) : (isPl (plO n es ms c k)).isSome = true := by
  unfold plO
  rw [isPl_ob]
  rfl
theorem pm_rest : pm5 "rest" = true := by decide +kernel
theorem pm_state : pm5 "state" = true := by decide +kernel
theorem pm_take : pm5 "take" = true := by decide +kernel
theorem pm_undo : pm5 "undo" = true := by decide +kernel
theorem pm_dup : pm5 "duplicate" = true := by decide +kernel
theorem erAll_app (xs ys l : List Ed) : erAll (xs ++ ys) l = erAll ys (erAll xs l) := by
  unfold erAll
  rw [List.foldl_append]
theorem erAll_sub : ∀ (xs l : List Ed), (erAll xs l).Sublist l
  | [], l => List.Sublist.refl l
  | x :: xs, l => by
    show (erAll xs (l.erase x)).Sublist l
    exact (erAll_sub xs _).trans List.erase_sublist
theorem VG.sub {n : Int} {es fs : List Ed} (h : VG n es) (s : fs.Sublist es) : VG n fs where
  lo := h.lo
  hi := h.hi
  len := Nat.le_trans s.length_le h.len
  ed := fun e he => h.ed e (s.subset he)
  up := h.up.sublist s
theorem rest_in {gd : Sl} {t2 t3 t4 : Sl} : ∀ (zs : List (Int × Int)) (l : List Ed) (t3 t4 : Sl), okB (zs.map fun x => mkE x.1 x.2) l = true →
    ∃ t3' t4', loop (gN2 3 4) L_Planner_rest_1 (zs.map fun x => pr2 (.int x.1) (.int x.2)) [gd, .own (l.map dE), t2, t3, t4] = .nx [gd, .own ((erAll (zs.map fun x => mkE x.1 x.2) l).map dE), t2, t3', t4']
  | [], l, t3, t4, _ => ⟨t3, t4, rfl⟩
  | z :: zs, l, t3, t4, h => by
    have s2 : szOk 2 = .ok () := szOk_lt (by omega)
    rw [List.map_cons, okB, Bool.and_eq_true, decide_eq_true_eq] at h
    obtain ⟨t3', t4', e⟩ := rest_in (gd := gd) (t2 := t2) (t3 := t3) (t4 := t4) zs (l.erase (mkE z.1 z.2)) (.val (.int z.1)) (.val (.int z.2)) h.2
    refine ⟨t3', t4', ?_⟩
    have st : turn (gN2 3 4) L_Planner_rest_1 (pr2 (.int z.1) (.int z.2)) [gd, .own (l.map dE), t2, t3, t4] = .nx [gd, .own ((l.erase (mkE z.1 z.2)).map dE), t2, .val (.int z.1), .val (.int z.2)] := by
      simp [L_Planner_rest_1, s2, mkE_d, remR_own h.1]
    rw [List.map_cons]
    have lp : loop (gN2 3 4) L_Planner_rest_1 (pr2 (.int z.1) (.int z.2) :: zs.map fun x => pr2 (.int x.1) (.int x.2)) [gd, .own (l.map dE), t2, t3, t4] = loop (gN2 3 4) L_Planner_rest_1 (zs.map fun x => pr2 (.int x.1) (.int x.2)) [gd, .own ((l.erase (mkE z.1 z.2)).map dE), t2, .val (.int z.1), .val (.int z.2)] := by
      have st' : L_Planner_rest_1 [gd, .own (l.map dE), t2, .val (.int z.1), .val (.int z.2)] = .nx [gd, .own ((l.erase (mkE z.1 z.2)).map dE), t2, .val (.int z.1), .val (.int z.2)] := st
      rw [loop]
      show (match L_Planner_rest_1 [gd, .own (l.map dE), t2, .val (.int z.1), .val (.int z.2)] with
        | .nx ρ' => _
        | .cnt ρ' => _
        | .brk ρ' => _
        | .ret d => _
        | .err x => _
        | .bad => _) = _
      rw [st']
    rw [lp, e]
    rfl
theorem rest_out {gd : Sl} : ∀ (cs : List (List Int)) (l : List Ed) (t2 t3 t4 : Sl), okB (cs.flatMap stepsOf) l = true →
    ∃ t2' t3' t4', loop (gN 2) L_Planner_rest_2 (cs.map dT) [gd, .own (l.map dE), t2, t3, t4] = .nx [gd, .own ((erAll (cs.flatMap stepsOf) l).map dE), t2', t3', t4']
  | [], l, t2, t3, t4, _ => ⟨t2, t3, t4, rfl⟩
  | p :: cs, l, t2, t3, t4, h => by
    rw [List.flatMap_cons, okB_append, Bool.and_eq_true] at h
    obtain ⟨t3', t4', e1⟩ := rest_in (gd := gd) (t2 := .val (dT p)) (t3 := t3) (t4 := t4) (p.zip p.tail) l t3 t4 h.1
    obtain ⟨a, b, c, e2⟩ := rest_out (gd := gd) cs (erAll (stepsOf p) l) (.val (dT p)) t3' t4' h.2
    refine ⟨a, b, c, ?_⟩
    obtain ⟨T, st, zd⟩ : ∃ T : PyData, slD (dT p) (some 1) none = .ok T ∧ zipD [dT p, T] = .ok ((p.zip p.tail).map fun x => pr2 (.int x.1) (.int x.2)) := by
      refine ⟨_, rfl, ?_⟩
      rw [cut_1, List.drop_one, ← List.map_tail]
      show Res.ok (List.zipWith pr2 (p.map .int) (p.tail.map .int)) = _
      rw [zip_map]
    have st' : L_Planner_rest_2 [gd, .own (l.map dE), .val (dT p), t3, t4] = .nx [gd, .own ((erAll (stepsOf p) l).map dE), .val (dT p), t3', t4'] := by
      simp [L_Planner_rest_2, st, zd]
      exact e1
    rw [List.map_cons, List.flatMap_cons, erAll_app, ← e2, loop]
    show (match L_Planner_rest_2 [gd, .own (l.map dE), .val (dT p), t3, t4] with
      | .nx ρ' => _
      | .cnt ρ' => _
      | .brk ρ' => _
      | .ret d => _
      | .err x => _
      | .bad => _) = _
    rw [st']
theorem f_rest {n : Int} {es : List Ed} {ms : List Int} {cs : List (List Int)} {k : Int} (h : okB (cs.flatMap stepsOf) es = true) : F_Planner_rest [plO n es ms (dC cs) k] = .ok (dG n (erAll (cs.flatMap stepsOf) es)) := by
  have s2 : szOk 2 = .ok () := szOk_lt (by omega)
  obtain ⟨a, b, c, e⟩ := rest_out (gd := .val (plO n es ms (dC cs) k)) cs es .no .no .no h
  have g0 : ixD (dG n es) (.int 0) = .ok (.int n) := rfl
  have g1 : ixD (dG n es) (.int 1) = .ok (.tuple (es.map dE)) := rfl
  have sq : seqD (dC cs) = .ok (cs.map dT) := rfl
  rw [u_Planner_rest, S_Planner_rest]
  simp [fl_g, fl_c, g0, g1, sq, e, s2, dG, dEs]
def stD (n : Int) (es : List Ed) (ms : List Int) (cs : List (List Int)) : PyData := .tuple [dG n es, dT ms, .tuple ((sortL cs).map dT)]
theorem f_state {n : Int} {es : List Ed} {ms : List Int} {cs : List (List Int)} {k : Int} (h : ∀ p ∈ cs, p ≠ []) : F_Planner_state [plO n es ms (.tuple (cs.map dT)) k] = .ok (stD n es ms cs) := by
  have s3 : szOk 3 = .ok () := szOk_lt (by omega)
  rw [u_Planner_state, S_Planner_state]
  simp [fl_g, fl_m, fl_c, sortedD_dTt h, s3, stD]
theorem okD_st (n : Int) (es : List Ed) (ms : List Int) (cs : List (List Int)) : okD (stD n es ms cs) = true := by
  have p1 := okD_plain (okD_dG n es)
  have p2 := okD_plain (okD_dT ms)
  have p3 := okD_plain (okD_dTs (sortL cs))
  have d1 : (dG n es).depth ≤ 3 := by
    have e : (dEs es).depth ≤ 2 := by
      have := depthAll_map (xs := es) (enc := dE) (n := 1) fun x hx => (dE_ok es x hx).2
      show PyData.depthAll (es.map dE) + 1 ≤ 2
      omega
    have z : (PyData.int n).depth = 0 := rfl
    unfold dG
    rw [PyData.depth, PyData.depthAll, PyData.depthAll, PyData.depthAll]
    omega
  have d2 := (dT_ok [ms] ms (by simp)).2
  have d3 : (PyData.tuple ((sortL cs).map dT)).depth ≤ 2 := by
    have := depthAll_map (xs := sortL cs) (enc := dT) (n := 1) fun x hx => (dT_ok (sortL cs) x hx).2
    show PyData.depthAll ((sortL cs).map dT) + 1 ≤ 2
    omega
  unfold okD stD
  rw [PyData.plain, PyData.plainAll, PyData.plainAll, PyData.plainAll, PyData.plainAll, PyData.depth, PyData.depthAll, PyData.depthAll, PyData.depthAll, PyData.depthAll, p1, p2, p3, Bool.and_eq_true]
  exact ⟨rfl, decide_eq_true (by omega)⟩
theorem f_plen {n : Int} {es : List Ed} {ms : List Int} {cs : List (List Int)} {k : Int} : F_Planner___len__ [plO n es ms (dC cs) k] = .ok (.int cs.length) := by
  rw [u_Planner___len__, S_Planner___len__]
  simp [fl_c, dC]
theorem f_ownL {n : Int} {es : List Ed} {ms : List Int} {cs : List (List Int)} {k : Int} (h : cs.length ≤ 1000) : ownL F_Planner___len__ (plO n es ms (dC cs) k) = .ok (.int cs.length) := by
  unfold ownL
  cases q : isPl (plO n es ms (dC cs) k) with
  | none => have := isPl_pl n es ms (dC cs) k; rw [q] at this; cases this
  | some kvs =>
    simp only [f_plen, noErr_ok, bind_ok]
    rw [if_pos ⟨by omega, by omega⟩]
theorem f_pstr {n : Int} {es : List Ed} {ms : List Int} {cs : List (List Int)} {k : Int} (hg : VG n es) (hm : VM n ms) (h : okB (cs.flatMap stepsOf) es = true) : F_Planner___str__ [plO n es ms (dC cs) k] = .ok (.str (txS n (erAll (cs.flatMap stepsOf) es) ms)) := by
  rw [u_Planner___str__, S_Planner___str__]
  have t := f_text_of (hg.sub (erAll_sub (cs.flatMap stepsOf) es)) hm
  simp [eMethN, noKey_pl pm_rest, f_rest h, fl_m, t, strS]
theorem f_ownS {n : Int} {es : List Ed} {ms : List Int} {cs : List (List Int)} {k : Int} (hg : VG n es) (hm : VM n ms) (h : okB (cs.flatMap stepsOf) es = true) : ownS F_Planner___str__ (plO n es ms (dC cs) k) = .ok (.str (txS n (erAll (cs.flatMap stepsOf) es) ms)) := by
  unfold ownS
  cases q : isPl (plO n es ms (dC cs) k) with
  | none => have := isPl_pl n es ms (dC cs) k; rw [q] at this; cases this
  | some kvs => simp only [f_pstr hg hm h, noErr_ok, bind_ok]
theorem eqArg_pl (n : Int) (es : List Ed) (ms : List Int) (c : PyData) (k : Int) : eqArg (plO n es ms c k) = true := by
  unfold eqArg
  rw [isPl_pl]
  rfl
theorem f_peq {n n' : Int} {es es' : List Ed} {ms ms' : List Int} {cs cs' : List (List Int)} {k k' : Int} (h : ∀ p ∈ cs, p ≠ []) (h' : ∀ p ∈ cs', p ≠ []) : F_Planner___eq__ [plO n es ms (dC cs) k, plO n' es' ms' (dC cs') k'] = eqD (stD n es ms cs) (stD n' es' ms' cs') := by
  have e1 : isPD (plO n' es' ms' (dC cs') k') = .ok (.bool true) := by
    unfold isPD
    rw [if_pos (eqArg_pl ..), isPl_pl]
  have e2 : F_Planner_state [plO n es ms (dC cs) k] = .ok (stD n es ms cs) := f_state h
  have e3 : F_Planner_state [plO n' es' ms' (dC cs') k'] = .ok (stD n' es' ms' cs') := f_state h'
  have e4 : ∃ b, eqD (stD n es ms cs) (stD n' es' ms' cs') = .ok (.bool b) := by
    unfold eqD
    rw [if_pos ⟨okD_st .., okD_st ..⟩]
    exact ⟨_, rfl⟩
  obtain ⟨b, e4⟩ := e4
  rw [u_Planner___eq__, S_Planner___eq__]
  simp [eMethN, noKey_pl pm_state, e1, e2, e3, e4]
theorem f_ipo_x {n : Int} {es : List Ed} {ms : List Int} {d : PyData} (h : isT d = false) (hs : notScr d = .ok ()) : F_is_path_of [dG n es, dT ms, d] = .ok (.bool false) := by
  rw [u_is_path_of, S_is_path_of]
  simp [h, hs]
theorem take_x {n : Int} {es : List Ed} {ms : List Int} {c d : PyData} {k : Int} (h : F_is_path_of [dG n es, dT ms, d] = .ok (.bool false)) : F_Planner_take [plO n es ms c k, d] = .err "InvalidPath" := by
  rw [u_Planner_take, S_Planner_take]
  simp [fl_g, fl_m, fl_c, h]
/-- a system of the graph, in any order -/
structure Gd (n : Int) (es : List Ed) (ms : List Int) (cs : List (List Int)) : Prop where
  pt : ∀ p ∈ cs, pathB n es ms p = true
  ok : okB (cs.flatMap stepsOf) es = true
theorem Gd.pre {n : Int} {es : List Ed} {ms : List Int} {cs ds : List (List Int)} (h : Gd n es ms (cs ++ ds)) : Gd n es ms cs := ⟨fun p hp => h.pt p (List.mem_append_left _ hp), by
  have := h.ok
  rw [List.flatMap_append, okB_append, Bool.and_eq_true] at this
  exact this.1⟩
theorem path_len {n : Int} {es : List Ed} {ms p : List Int} (hn : n ≤ 6) (h : pathB n es ms p = true) : 2 ≤ p.length ∧ p.length ≤ 6 := by
  obtain ⟨h1, h2, h3, _⟩ := pathB_iff.mp h
  refine ⟨h1, ?_⟩
  have := nodup_len (xs := p.map Int.toNat) (ys := List.range 6) (by
    rw [List.nodup_iff_pairwise_ne, List.pairwise_map]
    refine (List.nodup_iff_pairwise_ne.mp h3).imp_of_mem fun {a b} ha hb hab => ?_
    have := h2 a ha
    have := h2 b hb
    omega) fun x hx => by
      obtain ⟨y, hy, rfl⟩ := List.mem_map.mp hx
      have := h2 y hy
      rw [List.mem_range]
      omega
  rw [List.length_map, List.length_range] at this
  exact this
theorem okB_len : ∀ {xs l : List Ed}, okB xs l = true → xs.length ≤ l.length
  | [], l, _ => Nat.zero_le _
  | x :: xs, l, h => by
    rw [okB, Bool.and_eq_true, decide_eq_true_eq] at h
    have := okB_len h.2
    rw [List.length_erase_of_mem h.1] at this
    have hl : 0 < l.length := List.length_pos_of_mem h.1
    rw [List.length_cons]
    omega
theorem Gd.few {n : Int} {es : List Ed} {ms : List Int} {cs : List (List Int)} (hg : VG n es) (h : Gd n es ms cs) : cs.length ≤ 9 := by
  have h1 := okB_len h.ok
  have h2 : cs.length ≤ (cs.flatMap stepsOf).length := by
    have hp := h.pt
    clear h h1
    induction cs with
    | nil => exact Nat.zero_le _
    | cons c cs ih =>
      have := ih fun p hp' => hp p (List.mem_cons_of_mem _ hp')
      have l2 := (path_len hg.hi (hp c (by simp))).1
      have l3 := steps_len' c (by omega)
      rw [List.flatMap_cons, List.length_append, List.length_cons]
      omega
  have := hg.len
  omega
theorem Gd.sys {n : Int} {es : List Ed} {ms : List Int} (hg : VG n es) : Gd n es ms (sysN es ms) := ⟨fun p hp => (sys_path hg ms p hp).b, by
  obtain ⟨W, h⟩ := sys_perm hg ms
  rw [okB_steps]
  exact perm_stepsB h⟩
theorem Gd.ne {n : Int} {es : List Ed} {ms : List Int} {cs : List (List Int)} (hg : VG n es) (h : Gd n es ms cs) : ∀ p ∈ cs, p ≠ [] := fun p hp e => by
  have := (path_len hg.hi (h.pt p hp)).1
  rw [e] at this
  cases this
theorem Gd.is {n : Int} {es : List Ed} {ms : List Int} {cs : List (List Int)} (hg : VG n es) (hm : VM n ms) (h : Gd n es ms cs) : F_is_system [dG n es, dT ms, dC cs] = .ok (.bool true) := by
  have f := h.few hg
  rw [f_is_system hg hm cs (fun p hp => by have := (path_len hg.hi (h.pt p hp)).2; omega) (by omega), ← okB_steps, h.ok, List.all_eq_true.mpr h.pt]
  rfl
theorem put_c (n : Int) (es : List Ed) (ms : List Int) (c d : PyData) (k : Int) : putD "chosen" d (plF n es ms c k) = plF n es ms d k := by
  have e1 : ¬ (("graph" : Str) = "chosen") := by decide +kernel
  have e2 : ¬ (("marks" : Str) = "chosen") := by decide +kernel
  simp [plF, putD, e1, e2]
theorem lk_one (a dx : Addr) (fd : Fd) : lkO a [(a, dx, fd)] = some fd := by unfold lkO; simp
theorem st_one (a dx : Addr) (fd fd' : Fd) : setW [(a, dx, fd)] a fd' = [(a, dx, fd')] := by unfold setW; simp
theorem slO_ex (a : Addr) : slO (some (Sl.val (exO a))) = some a := asO_ex a
theorem fz_0 (a dx : Addr) (fd : Fd) (ρ : DL.Env) : fz [0] (.val (exO a) :: ρ) [(a, dx, fd)] = .val (obD "Planner" fd) :: ρ := by
  unfold fz
  simp [fz1, slO_ex, lk_one]
theorem add_c (cs : List (List Int)) (p : List Int) (h : cs.length ≤ 1000) : addD (dC cs) (.tuple [dT p]) = .ok (dC (cs ++ [p])) := by
  show (szOk ((cs.map dT).length + 1)).bind (fun _ => Res.ok (PyData.tuple (cs.map dT ++ [dT p]))) = _
  rw [szOk_lt (by rw [List.length_map]; omega), bind_ok]
  unfold dC
  rw [List.map_append]
  rfl
theorem plain_dC (cs : List (List Int)) : (dC cs).plain = true := okD_plain (okD_dTs cs)
theorem w_take {n : Int} {es : List Ed} {ms : List Int} {cs : List (List Int)} {p : List Int} {k : Int} (hg : VG n es) (hm : VM n ms) (h : Gd n es ms (cs ++ [p])) {kv : PyData → Fd → Prop} {ke : Str → Fd → Prop} (hk : kv (.int (sysN (erAll ((cs ++ [p]).flatMap stepsOf) es) ms).length) (plF n es ms (dC (cs ++ [p])) k)) :
    PM_Planner_take (plF n es ms (dC cs) k) [dT p] kv ke := by
  refine ⟨rfl, fun a dx => ?_⟩
  have hp := h.pt p (by simp)
  have fw := h.pre.few hg
  have i1 := f_is_path_of n es ms p (by have := (path_len hg.hi hp).2; omega)
  rw [hp] at i1
  have i2 := h.is hg hm
  have ad := add_c cs p (by omega)
  have ob : obD "Planner" (plF n es ms (dC cs) k) = plO n es ms (dC cs) k := rfl
  have ob2 : obD "Planner" (plF n es ms (dC (cs ++ [p])) k) = plO n es ms (dC (cs ++ [p])) k := rfl
  have s1 : szOk 1 = .ok () := szOk_lt (by omega)
  have fr := f_rest (n := n) (ms := ms) (k := k) h.ok
  have sy := f_system_of (hg.sub (erAll_sub ((cs ++ [p]).flatMap stepsOf) es)) hm
  have ow : ownB [.val (exO a), .val (dT p)] = true := rfl
  unfold O_Planner_take oSeq oIf otR
  show ownB [.val (exO a), .val (dT p)] = true ∧ _
  refine ⟨ow, ?_⟩
  have t1 : bOr (bNot (tru (eCallN F_is_path_of (eCons (eFld "graph" (eVar 0)) (eCons (eFld "marks" (eVar 0)) (eCons (eVar 1) eNil)))))) (bNot (tru (eCall F_is_system (eCons (eFld "graph" (eVar 0)) (eCons (eFld "marks" (eVar 0)) (eCons (e2 addD (eFld "chosen" (eVar 0)) (eTup (eCons (eVar 1) eNil))) eNil)))))) (fz [0] [.val (exO a), .val (dT p)] [(a, dx, plF n es ms (dC cs) k)]) = .ok false := by
    rw [fz_0, ob]
    simp [fl_g, fl_m, fl_c, i1, ad, s1, i2]
  rw [show (Sl.val (exO a) :: (List.map Sl.val [dT p] ++ List.replicate (2 - 2) Sl.no)) = [.val (exO a), .val (dT p)] from rfl, t1]
  show oFld "chosen" 0 (oxR [0] (e2 addD (eFld "chosen" (eVar 0)) (eTup (eCons (eVar 1) eNil)))) [.val (exO a), .val (dT p)] [(a, dx, plF n es ms (dC cs) k)] _
  unfold oFld oxR
  refine ⟨ow, ?_⟩
  have t2 : e2 addD (eFld "chosen" (eVar 0)) (eTup (eCons (eVar 1) eNil)) (fz [0] [.val (exO a), .val (dT p)] [(a, dx, plF n es ms (dC cs) k)]) = .ok (dC (cs ++ [p])) := by
    rw [fz_0, ob]
    simp [fl_c, ad, s1]
  rw [t2]
  refine ⟨plain_dC _, ?_⟩
  rw [show ([.val (exO a), .val (dT p)] : DL.Env)[0]? = some (.val (exO a)) from rfl]
  simp only [slO_ex, lk_one]
  refine ⟨by show 4 < 800; decide, ?_⟩
  rw [st_one, put_c]
  show oRet (oxR [0] (eCall (call1 lenD) (eCons (eCallN F_system_of (eCons (eMethN "rest" F_Planner_rest (eVar 0) eNil) (eCons (eFld "marks" (eVar 0)) eNil))) eNil))) [.val (exO a), .val (dT p)] [(a, dx, plF n es ms (dC (cs ++ [p])) k)] _
  unfold oRet oxR
  refine ⟨ow, ?_⟩
  have t3 : eCall (call1 lenD) (eCons (eCallN F_system_of (eCons (eMethN "rest" F_Planner_rest (eVar 0) eNil) (eCons (eFld "marks" (eVar 0)) eNil))) eNil) (fz [0] [.val (exO a), .val (dT p)] [(a, dx, plF n es ms (dC (cs ++ [p])) k)]) = .ok (.int (sysN (erAll ((cs ++ [p]).flatMap stepsOf) es) ms).length) := by
    rw [fz_0, ob2]
    have ln : ∀ c : List (List Int), lenD (dC c) = .ok (.int c.length) := fun c => by simp [dC]
    simp only [ev_call, ev_cons, ev_nil, ev_callN, eMethN, ev_var, List.getElem?_cons_zero, slV_val, bind_ok, noKey_pl pm_rest, if_true, fr, noErr_ok, ev_fld, fl_m, sy]
    exact ln _
  rw [t3]
  exact ⟨rfl, _, rfl, hk⟩
theorem undo_x {n : Int} {es : List Ed} {ms : List Int} {cs : List (List Int)} {k : Int} (h : (cs.length : Int) ≤ k) : F_Planner_undo [plO n es ms (dC cs) k] = .err "NothingToUndo" := by
  rw [u_Planner_undo, S_Planner_undo]
  have ln : lenD (dC cs) = .ok (.int cs.length) := by simp [dC]
  simp [fl_c, fl_k, ln, h]
theorem f_dup {n : Int} {es : List Ed} {ms : List Int} {cs : List (List Int)} {k : Int} (hg : VG n es) (hm : VM n ms) : R_Planner_duplicate [plO n es ms (dC cs) k] = .ok (plF n es ms (dC cs) cs.length) := by
  have ln : lenD (dC cs) = .ok (.int cs.length) := by simp [dC]
  have i0 : F_Planner___init__ [dG n es, dT ms] = .ok (fd0 (dG n es) (dT ms)) := by
    show (match F_check_marks [dG n es, dT ms] with
      | .ok _ => Res.ok (fd0 (dG n es) (dT ms))
      | .err x => if lineOf x = none then .err x else .bad
      | .bad => .bad) = _
    rw [f_check_marks hg hm]
  show (match fldD "graph" (plO n es ms (dC cs) k), fldD "marks" (plO n es ms (dC cs) k), fldD "chosen" (plO n es ms (dC cs) k) with
    | .ok g, .ok m, .ok c => (match F_Planner___init__ [g, m], lenD c with
      | .ok fd, .ok l => if fd.length < 700 then Res.ok (putD "kept" l (putD "chosen" c fd)) else .bad
      | _, _ => .bad)
    | _, _, _ => .bad) = _
  rw [fl_g, fl_m, fl_c]
  simp only [i0, ln]
  rw [if_pos (by show 4 < 700; decide)]
  have e1 : ¬ (("graph" : Str) = "chosen") := by decide +kernel
  have e2 : ¬ (("marks" : Str) = "chosen") := by decide +kernel
  have e3 : ¬ (("graph" : Str) = "kept") := by decide +kernel
  have e4 : ¬ (("marks" : Str) = "kept") := by decide +kernel
  have e5 : ¬ (("chosen" : Str) = "kept") := by decide +kernel
  simp [fd0, putD, e1, e2, e3, e4, e5, plF]
theorem f_dupF {n : Int} {es : List Ed} {ms : List Int} {cs : List (List Int)} {k : Int} (hg : VG n es) (hm : VM n ms) : F_Planner_duplicate [plO n es ms (dC cs) k] = .ok (plO n es ms (dC cs) cs.length) := by
  unfold F_Planner_duplicate mkR
  rw [f_dup hg hm]
  rfl

theorem isV (x : Str) : isaE x "ValueError" = true := by
  unfold isaE
  rw [show (("ValueError" : Str) == "ValueError") = true from by decide +kernel, Bool.or_true]
def oddK (j : Nat) : PyData := ([PyData.none, .str "x", .list [.int 7], .int (-5), .bool true] : List PyData).getD j .none
theorem odd_path {n : Int} {es : List Ed} {ms : List Int} (j : Nat) : F_is_path_of [dG n es, dT ms, oddK j] = .ok (.bool false) := by
  match j with
  | 0 => exact f_ipo_x rfl rfl
  | 1 => exact f_ipo_x rfl rfl
  | 2 => exact f_ipo_x rfl rfl
  | 3 => exact f_ipo_x rfl rfl
  | 4 => exact f_ipo_x rfl rfl
  | j + 5 => exact f_ipo_x rfl rfl
theorem bad_path {n : Int} {es : List Ed} {ms p : List Int} (hn : n ≤ 6) (h : p = [0, 9] ∨ p = [] ∨ p = [0, 0]) : F_is_path_of [dG n es, dT ms, .tuple (p.map .int)] = .ok (.bool false) := by
  have q := f_is_path_of n es ms p (by rcases h with e | e | e <;> subst e <;> decide)
  have : pathB n es ms p = false := by
    cases z : pathB n es ms p with
    | false => rfl
    | true =>
      obtain ⟨h1, h2, h3, _⟩ := pathB_iff.mp z
      rcases h with e | e | e <;> subst e
      · have := h2 9 (by simp); omega
      · cases h1
      · simp at h3
  rw [this] at q
  exact q
theorem f__law_failed {n : Int} {es : List Ed} {ms : List Int} {cs : List (List Int)} (hg : VG n es) {m : Int} (hm : 0 ≤ m ∧ m < 5) (j : Nat) : F__law_failed [plO n es ms (dC cs) cs.length, .int m, oddK j] = .ok (.bool true) := by
  have hn := hg.hi
  have t0 := take_x (c := dC cs) (k := (cs.length : Int)) (odd_path (n := n) (es := es) (ms := ms) j)
  have t1 := undo_x (n := n) (es := es) (ms := ms) (cs := cs) (k := (cs.length : Int)) (by omega)
  have t2 := take_x (c := dC cs) (k := (cs.length : Int)) (bad_path (n := n) (es := es) (ms := ms) (p := [0, 9]) hn (.inl rfl))
  have t3 := take_x (c := dC cs) (k := (cs.length : Int)) (bad_path (n := n) (es := es) (ms := ms) (p := []) hn (.inr (.inl rfl)))
  have t4 := take_x (c := dC cs) (k := (cs.length : Int)) (bad_path (n := n) (es := es) (ms := ms) (p := [0, 0]) hn (.inr (.inr rfl)))
  simp only [List.map_cons, List.map_nil] at t2 t3 t4
  have b1 : baseN "InvalidPath" = "InvalidPath" := by decide +kernel
  have b2 : baseN "NothingToUndo" = "NothingToUndo" := by decide +kernel
  have c1 : (["InvalidGraph", "InvalidMarks", "InvalidPath", "NothingToUndo"] : List Str).contains "InvalidPath" = true := by decide +kernel
  have c2 : (["InvalidGraph", "InvalidMarks", "InvalidPath", "NothingToUndo"] : List Str).contains "NothingToUndo" = true := by decide +kernel
  have bl : ∀ x, retR (T__law_failed 0 0 x (blank 3 4 (exD 0 0 x))) = .ret (.bool true) := fun x => by
    simp [T__law_failed, blank, List.replicate, isV]
  rw [u__law_failed, S__law_failed]
  rcases (show m = 0 ∨ m = 1 ∨ m = 2 ∨ m = 3 ∨ m = 4 by omega) with e | e | e | e | e <;> subst e
  · simp [sTryY, eMeth, noKey_pl pm_take, t0, b1, bl]
  · simp [sTryY, eMeth, noKey_pl pm_undo, t1, b2, bl]
  · simp [sTryY, eMeth, noKey_pl pm_take, t2, b1, bl, szOk_lt]
  · simp [sTryY, eMeth, noKey_pl pm_take, t3, b1, bl, szOk_lt]
  · simp [sTryY, eMeth, noKey_pl pm_take, t4, b1, bl, szOk_lt]
theorem okD_four {x y z u : PyData} (h1 : okD x = true ∧ x.depth ≤ 50) (h2 : okD y = true ∧ y.depth ≤ 50) (h3 : okD z = true ∧ z.depth ≤ 50) (h4 : okD u = true ∧ u.depth ≤ 50) : okD (.tuple [x, y, z, u]) = true := by
  unfold okD
  rw [PyData.plain, PyData.plainAll, PyData.plainAll, PyData.plainAll, PyData.plainAll, PyData.plainAll, PyData.depth, PyData.depthAll, PyData.depthAll, PyData.depthAll, PyData.depthAll, PyData.depthAll, okD_plain h1.1, okD_plain h2.1, okD_plain h3.1, okD_plain h4.1, Bool.and_eq_true]
  exact ⟨rfl, decide_eq_true (by omega)⟩
theorem dG_dep (n : Int) (es : List Ed) : (dG n es).depth ≤ 3 := by
  have e : (dEs es).depth ≤ 2 := by
    have := depthAll_map (xs := es) (enc := dE) (n := 1) fun x hx => (dE_ok es x hx).2
    show PyData.depthAll (es.map dE) + 1 ≤ 2
    omega
  have z : (PyData.int n).depth = 0 := rfl
  unfold dG
  rw [PyData.depth, PyData.depthAll, PyData.depthAll, PyData.depthAll]
  omega
theorem st_dep (n : Int) (es : List Ed) (ms : List Int) (cs : List (List Int)) : (stD n es ms cs).depth ≤ 4 := by
  have d1 := dG_dep n es
  have d2 := (dT_ok [ms] ms (by simp)).2
  have d3 : (PyData.tuple ((sortL cs).map dT)).depth ≤ 2 := by
    have := depthAll_map (xs := sortL cs) (enc := dT) (n := 1) fun x hx => (dT_ok (sortL cs) x hx).2
    show PyData.depthAll ((sortL cs).map dT) + 1 ≤ 2
    omega
  unfold stD
  rw [PyData.depth, PyData.depthAll, PyData.depthAll, PyData.depthAll, PyData.depthAll]
  omega
def bfD (n : Int) (es : List Ed) (ms : List Int) (cs : List (List Int)) : PyData := .tuple [stD n es ms cs, dG n (erAll (cs.flatMap stepsOf) es), .int cs.length, .str (txS n (erAll (cs.flatMap stepsOf) es) ms)]
theorem ne_bf (n : Int) (es : List Ed) (ms : List Int) (cs : List (List Int)) : neD (bfD n es ms cs) (bfD n es ms cs) = .ok (.bool false) := by
  have ok : okD (bfD n es ms cs) = true := by
    unfold bfD
    refine okD_four ⟨okD_st .., ?_⟩ ⟨okD_dG .., ?_⟩ ⟨rfl, by show 0 ≤ 50; decide⟩ ⟨rfl, by show 0 ≤ 50; decide⟩
    · have := st_dep n es ms cs; omega
    · have := dG_dep n (erAll (cs.flatMap stepsOf) es); omega
  unfold neD
  rw [if_pos ⟨ok, ok⟩, PySem.SeqAt.eqv_refl_plain _ (okD_plain ok)]
  rfl
theorem eq_st (n : Int) (es : List Ed) (ms : List Int) (cs : List (List Int)) : eqD (stD n es ms cs) (stD n es ms cs) = .ok (.bool true) := by
  unfold eqD
  rw [if_pos ⟨okD_st .., okD_st ..⟩, PySem.SeqAt.eqv_refl_plain _ (okD_plain (okD_st ..))]
/-- the frozen part of the law -/
theorem law_tail {n : Int} {es : List Ed} {ms : List Int} {cs : List (List Int)} {ds : List Int} {s0 s5 : Sl} (hg : VG n es) (hm : VM n ms) (h : Gd n es ms cs) (hd : Dr ds) :
    (sSeq (sSet 6 (eVar 4))
(sSeq (sSet 4 (eMethN "duplicate" F_Planner_duplicate (eVar 4) eNil))
(sSeq (sSet 7 (eTup (eCons (eMethN "state" F_Planner_state (eVar 4) eNil) (eCons (eMethN "rest" F_Planner_rest (eVar 4) eNil) (eCons (eCall (call1 (ownL F_Planner___len__)) (eCons (eVarS 4) eNil)) (eCons (eCall (call1 (ownS F_Planner___str__)) (eCons (eVarS 4) eNil)) eNil))))))
(sSeq (sFor (iRng1D (eCons (e2 addD (eC (.int 3)) (e2 modD (e2 ixD (eVarS 1) (eC (.int 40))) (eC (.int 6)))) eNil)) (gN 8)
L_law_1)
(sRet (eC (.bool true))))))) [s0, .val (dL ds), .val (dG n es), .val (dT ms), .val (plO n es ms (dC cs) 0), s5, .no, .no, .no, .no] = .ret (.bool true) := by
  have fw := h.few hg
  have s4 : szOk 4 = .ok () := szOk_lt (by omega)
  have dp := f_dupF (k := 0) (cs := cs) hg hm
  have fs : ∀ k, F_Planner_state [plO n es ms (dC cs) k] = .ok (stD n es ms cs) := fun k => f_state (h.ne hg)
  have fr : ∀ k, F_Planner_rest [plO n es ms (dC cs) k] = .ok (dG n (erAll (cs.flatMap stepsOf) es)) := fun k => f_rest h.ok
  have fl := f_ownL (n := n) (es := es) (ms := ms) (cs := cs) (k := (cs.length : Int)) (by omega)
  have ft := f_ownS (k := (cs.length : Int)) hg hm h.ok
  have i40 : ixD (dL ds) (.int 40) = .ok (.int (drw ds 40)) := hd.ix (i := 40) (by omega) (by omega)
  have pq : F_Planner___eq__ [plO n es ms (dC cs) cs.length, plO n es ms (dC cs) 0] = .ok (.bool true) := by rw [f_peq (h.ne hg) (h.ne hg), eq_st]
  have nq : ownN F_Planner___eq__ (plO n es ms (dC cs) cs.length) (plO n es ms (dC cs) 0) = .ok (.bool false) := by
    unfold ownN
    cases q1 : isPl (plO n es ms (dC cs) cs.length) with
    | none => have := isPl_pl n es ms (dC cs) cs.length; rw [q1] at this; cases this
    | some kvs =>
      cases q2 : isPl (plO n es ms (dC cs) 0) with
      | none => have := isPl_pl n es ms (dC cs) 0; rw [q2] at this; cases this
      | some kws => simp [pq]
  have bf : PyData.tuple [stD n es ms cs, dG n (erAll (cs.flatMap stepsOf) es), .int cs.length, .str (txS n (erAll (cs.flatMap stepsOf) es) ms)] = bfD n es ms cs := rfl
  have r0 : rng1D [.int (3 + drw ds 40 % 6)] = .ok ((irange 0 (3 + drw ds 40 % 6)).map .int) := rng1_is (by omega) (by omega)
  obtain ⟨ρ', el, t8, t9, he⟩ := loop_from (enc := PyData.int) (g := gN 8) (S := L_law_1) (fun _ ρ => ∃ t8 t9 : Sl, ρ = [s0, .val (dL ds), .val (dG n es), .val (dT ms), .val (plO n es ms (dC cs) cs.length), s5, .val (plO n es ms (dC cs) 0), .val (bfD n es ms cs), t8, t9])
    (xs := irange 0 (3 + drw ds 40 % 6)) (ρ := [s0, .val (dL ds), .val (dG n es), .val (dT ms), .val (plO n es ms (dC cs) cs.length), s5, .val (plO n es ms (dC cs) 0), .val (bfD n es ms cs), .no, .no]) ⟨.no, .no, rfl⟩ (fun i x ρ hx ⟨t8, t9, e⟩ => by
      subst e
      have xr := mem_irange.mp (List.mem_of_getElem? hx)
      have i5 : ixD (dL ds) (.int (50 + x % 8)) = .ok (.int (drw ds (50 + x % 8))) := hd.ix (i := 50 + x % 8) (by omega) (by omega)
      have i4 : ixD (dL ds) (.int (41 + x % 8)) = .ok (.int (drw ds (41 + x % 8))) := hd.ix (i := 41 + x % 8) (by omega) (by omega)
      obtain ⟨j, hj, ej⟩ : ∃ j : Nat, j < 5 ∧ drw ds (50 + x % 8) % 5 = (j : Int) := ⟨(drw ds (50 + x % 8) % 5).toNat, by omega, by omega⟩
      have w1 : Res.ofOpt (atI [PyData.none, .str "x", .list [.int 7], .int (-5), .bool true] (j : Int)) = .ok (oddK j) := by
        rcases (show j = 0 ∨ j = 1 ∨ j = 2 ∨ j = 3 ∨ j = 4 by omega) with e | e | e | e | e <;> subst e <;> rfl
      have fd := f__law_failed (ms := ms) (cs := cs) hg (m := (drw ds (41 + x % 8) + x) % 5) (by omega) j
      refine ⟨_, ?_, .val (.int x), .val (oddK j), rfl⟩
      simp [L_law_1, i5, i4, ej, w1, szOk_lt, fd, eMethN, noKey_pl pm_state, noKey_pl pm_rest, fs, fr, fl, ft, bf, ne_bf, nq])
  subst he
  simp [eMethN, noKey_pl pm_dup, noKey_pl pm_state, noKey_pl pm_rest, dp, fs, fr, fl, ft, s4, bf, i40, r0, el]
theorem o_step {S : DL.Env → RS} {T : OSt} {ρ ρ' : DL.Env} {ws : Os} {κ : OKt} (h : S ρ = .nx ρ') (k : T ρ' ws κ) : oSeq (oPure S) T ρ ws κ := by
  unfold oSeq oPure
  rw [h]
  exact k
theorem key_pl (m : Str) (h : pm5 m = true) (a dx : Addr) (n : Int) (es : List Ed) (ms : List Int) (c : PyData) (k : Int) : keyO m a [(a, dx, plF n es ms c k)] := fun fd hfd => by
  rw [lk_one] at hfd
  cases hfd
  have := noKey_pl h n es ms c k
  unfold plO at this
  rw [noKey_ob] at this
  simpa using this
theorem take_loop {n : Int} {es : List Ed} {ms : List Int} (hg : VG n es) (hm : VM n ms) {a dx : Addr} {s0 s1 s2 s3 : Sl} {κ : OKt} : ∀ (qs cs : List (List Int)) (t5 : Sl), (t5 = .no ∨ ∃ p, t5 = .val (dT p)) → Gd n es ms (cs ++ qs) →
    (∀ t5', (t5' = .no ∨ ∃ p, t5' = .val (dT p)) → κ.nx [s0, s1, s2, s3, .val (exO a), t5', .no, .no, .no, .no] [(a, dx, plF n es ms (dC (cs ++ qs)) 0)]) →
    oLoop (gN 5) OL_law_1 (qs.map dT) [s0, s1, s2, s3, .val (exO a), t5, .no, .no, .no, .no] [(a, dx, plF n es ms (dC cs) 0)] κ
  | [], cs, t5, ht, h, k => by
    rw [List.append_nil] at k
    exact k t5 ht
  | p :: qs, cs, t5, ht, h, k => by
    have e : cs ++ p :: qs = (cs ++ [p]) ++ qs := by simp
    rw [e] at h k
    have ih := take_loop hg hm (a := a) (dx := dx) (s0 := s0) (s1 := s1) (s2 := s2) (s3 := s3) (κ := κ) qs (cs ++ [p]) (.val (dT p)) (.inr ⟨p, rfl⟩) h k
    rw [List.map_cons, oLoop]
    show OL_law_1 [s0, s1, s2, s3, .val (exO a), .val (dT p), .no, .no, .no, .no] [(a, dx, plF n es ms (dC cs) 0)] _
    unfold OL_law_1 oExpr oxMeth
    rw [show ([s0, s1, s2, s3, .val (exO a), .val (dT p), .no, .no, .no, .no] : DL.Env)[4]? = some (.val (exO a)) from rfl]
    simp only [slO_ex]
    refine ⟨key_pl _ pm_take a dx n es ms (dC cs) 0, ?_⟩
    rw [show eCons (eVar 5) eNil [s0, s1, s2, s3, .val (exO a), .val (dT p), .no, .no, .no, .no] = .ok [dT p] from rfl]
    show callW PM_Planner_take a [dT p] [(a, dx, plF n es ms (dC cs) 0)] _ _
    unfold callW
    rw [lk_one]
    refine w_take hg hm h.pre ?_
    rw [st_one]
    exact ih
theorem law_true (ns : List Int) (h : ns.length ≤ 63) : F_law [scrD ns] = .ok (.bool true) := by
  obtain ⟨ds, hrow, hd⟩ := law_row ns (k := 4) (by omega)
  obtain ⟨n, es, hgr, hg, hl⟩ := f__law_graph ns (k := 2) (m := 8) (by omega) (by omega)
  obtain ⟨ms, hms, hm⟩ := f__law_marks ns (k := 3) (by omega) hg
  refine runL_at ⟨rfl, ?_⟩
  show O_law [.val (scrD ns), .no, .no, .no, .no, .no, .no, .no, .no, .no] [] _
  unfold O_law
  refine o_step (ρ' := [.val (scrD ns), .val (dL ds), .no, .no, .no, .no, .no, .no, .no, .no]) (by simp [hrow]) ?_
  refine o_step (ρ' := [.val (scrD ns), .val (dL ds), .val (dG n es), .no, .no, .no, .no, .no, .no, .no]) (by simp [hgr]) ?_
  refine o_step (ρ' := [.val (scrD ns), .val (dL ds), .val (dG n es), .val (dT ms), .no, .no, .no, .no, .no, .no]) (by simp [hms]) ?_
  have i0 : F_Planner___init__ [dG n es, dT ms] = .ok (plF n es ms (dC []) 0) := by
    show (match F_check_marks [dG n es, dT ms] with
      | .ok _ => Res.ok (fd0 (dG n es) (dT ms))
      | .err x => if lineOf x = none then .err x else .bad
      | .bad => .bad) = _
    rw [f_check_marks hg hm]
    rfl
  unfold oSeq oSet oxNew
  rw [show eCons (eVar 2) (eCons (eVar 3) eNil) [.val (scrD ns), .val (dL ds), .val (dG n es), .val (dT ms), .no, .no, .no, .no, .no, .no] = .ok [dG n es, dT ms] from rfl]
  simp only [i0]
  intro a dx _
  have d0 : ixD (dL ds) (.int 0) = .ok (.int (drw ds 0)) := hd.ix (i := 0) (by omega) (by omega)
  obtain ⟨k0, hk0, e0⟩ : ∃ k : Nat, k < 4 ∧ drw ds 0 % 4 = (k : Int) := ⟨(drw ds 0 % 4).toNat, by omega, by omega⟩
  have it : iSeq (eSl (eCallN F_system (eCons (eVar 2) (eCons (eVar 3) eNil))) oNone (oSome (e2 modD (e2 ixD (eVarS 1) (eC (.int 0))) (eC (.int 4))))) [.val (scrD ns), .val (dL ds), .val (dG n es), .val (dT ms), .val (exO a), .no, .no, .no, .no, .no] = .ok (((sysN es ms).take k0).map dT) := by
    have sl : slD (dC (sysN es ms)) none (some (k0 : Int)) = .ok (.tuple (((sysN es ms).take k0).map dT)) := by
      show Res.ok (PyData.tuple (cutD ((sysN es ms).map dT) none (some (k0 : Int)))) = _
      rw [cut_to, List.map_take]
    simp [f_system hg hm, d0, e0, sl]
  show oFor _ (gN 5) OL_law_1 [.val (scrD ns), .val (dL ds), .val (dG n es), .val (dT ms), .val (exO a), .no, .no, .no, .no, .no] [(a, dx, plF n es ms (dC []) 0)] _
  unfold oFor
  rw [it]
  have gd : Gd n es ms ((sysN es ms).take k0) := by
    have := Gd.sys (ms := ms) hg
    rw [← List.take_append_drop k0 (sysN es ms)] at this
    exact this.pre
  refine take_loop hg hm _ [] .no (.inl rfl) gd fun t5 ht => ?_
  rw [List.nil_append]
  unfold oFrz
  refine ⟨by rcases ht with e | ⟨p, e⟩ <;> subst e <;> rfl, ?_⟩
  have fe : fz [4] [.val (scrD ns), .val (dL ds), .val (dG n es), .val (dT ms), .val (exO a), t5, .no, .no, .no, .no] [(a, dx, plF n es ms (dC ((sysN es ms).take k0)) 0)] = [.val (scrD ns), .val (dL ds), .val (dG n es), .val (dT ms), .val (plO n es ms (dC ((sysN es ms).take k0)) 0), t5, .no, .no, .no, .no] := by
    unfold fz
    simp [fz1, slO_ex, lk_one, plO]
  rw [fe, law_tail hg hm gd hd]
  exact ⟨rfl, rfl⟩

def fa : List He.Fa := [.glo "_law_cell", .glo "_law_row", .glo "_law_graph", .glo "_law_degree", .glo "_law_marks", .glo "in_range", .glo "is_edge", .glo "is_graph", .glo "check_graph", .glo "is_rising", .glo "are_marks", .glo "check_marks", .glo "paths_from", .glo "every_path", .glo "pack", .glo "system_of", .glo "system", .glo "is_path_of", .glo "is_system", .glo "text_of", .glo "_law_failed", .glo "law", .glo "Planner", .mkr "Planner", .meth "Planner" "duplicate", .meth "Planner" "rest", .meth "Planner" "take", .meth "Planner" "state", .meth "Planner" "__len__", .meth "Planner" "__str__", .meth "Planner" "__eq__", .meth "Planner" "undo", .free "isinstance", .free "int", .free "bool", .free "tuple", .free "str", .free "len", .free "zip", .free "range", .free "enumerate", .free "min", .free "max", .free "sorted", .free "set", .free "sum", .free "list", .int "MAX_EDGES" 9, .int "MAX_VERTICES" 6, .glo "InvalidGraph", .exc "InvalidGraph", .glo "InvalidMarks", .exc "InvalidMarks", .glo "InvalidPath", .exc "InvalidPath", .glo "NothingToUndo", .exc "NothingToUndo"]
def fn : List He.DefD := [dD "_law_cell" s__law_cell, dD "_law_row" s__law_row, dD "_law_graph" s__law_graph, dD "_law_degree" s__law_degree, dD "_law_marks" s__law_marks, dD "in_range" s_in_range, dD "is_edge" s_is_edge, dD "is_graph" s_is_graph, dD "check_graph" s_check_graph, dD "is_rising" s_is_rising, dD "are_marks" s_are_marks, dD "check_marks" s_check_marks, dM "__init__" "Planner.__init__" s_Planner___init__, dM "duplicate" "Planner.duplicate" s_Planner_duplicate, dD "paths_from" s_paths_from, dD "every_path" s_every_path, dD "pack" s_pack, dD "system_of" s_system_of, dD "system" s_system, dD "is_path_of" s_is_path_of, dD "is_system" s_is_system, dM "rest" "Planner.rest" s_Planner_rest, dM "take" "Planner.take" s_Planner_take, dM "state" "Planner.state" s_Planner_state, dM "__len__" "Planner.__len__" s_Planner___len__, dD "text_of" s_text_of, dM "__str__" "Planner.__str__" s_Planner___str__, dM "__eq__" "Planner.__eq__" s_Planner___eq__, dM "undo" "Planner.undo" s_Planner_undo, dD "_law_failed" s__law_failed, dD "law" s_law]
def ex (K : PySem.W.Frag) : Bool := xqB K ["InvalidGraph", "InvalidMarks", "InvalidPath", "NothingToUndo"] [] && (plB K && (plQB K && (true)))
abbrev R : PySem.W.OpenRow := PySem.W.OpenLaw.row PySem.Challenge.rw_markedpaths_k15_failed_calls
abbrev hk : PySem.W.Hook := hookE 6 fa ex fn
def ob (s : PySem.W.SharedT) : He.AlD := obsEG 6 fa ex fn (HandSHeadRun.getT s)
theorem ob_eq (s : PySem.W.SharedT) : ob s = hk.obs s.abs := obsEG_eq (HandSHeadRun.getT_eq s)
def loose0 : List PySem.Str := ["MarkError", "InvalidGraph", "InvalidMarks", "InvalidPath", "NothingToUndo", "MAX_VERTICES", "MAX_EDGES", "in_range", "is_edge", "is_graph", "check_graph", "is_rising", "are_marks", "check_marks", "text_of", "paths_from", "every_path", "pack", "system_of", "system"]
def loose1 : List PySem.Str := ["is_path_of", "is_system", "Planner", "_law_cell", "_law_row", "_law_graph", "_law_marks", "_law_degree", "_law_failed"]
def loose : List PySem.Str := loose0 ++ loose1
theorem run (w : World) : HandSHeadRun.RunEq R (PySem.W.view R.prog [35]) hk ob 4000 loose w := by
  intro os
  kernel_rfl
theorem facts {P : Program} {w : World} {K : PySem.W.Frag} {h : Heap} {mg : Str → Option Value} {f : Addr} (X : K.In h) (G : h.Ns mainGlobals mg) (hfa : mg ("law" : Str) = some (.ref f)) (c : SaysE fa ex fn K) :
    ∃ fd : FuncData, (∀ (s : Shared) (v : Value), BindsTo s fd ⟨[v], []⟩ [("script", v)]) ∧ ∀ base : Heap, K.In base → base.Ns mainGlobals mg → FnOk P w K mg base (L2.CX P w) 17 f fd ["script"] (spD K mg F_law) := by
  obtain ⟨fd__law_cell, D__law_cell⟩ := c.fun_ 0 (x := "_law_cell") (st := s__law_cell)
  have g__law_cell := He.glo_ok X G (c.fact 0 (f := .glo "_law_cell") rfl)
  obtain ⟨fd__law_row, D__law_row⟩ := c.fun_ 1 (x := "_law_row") (st := s__law_row)
  have g__law_row := He.glo_ok X G (c.fact 1 (f := .glo "_law_row") rfl)
  obtain ⟨fd__law_graph, D__law_graph⟩ := c.fun_ 2 (x := "_law_graph") (st := s__law_graph)
  have g__law_graph := He.glo_ok X G (c.fact 2 (f := .glo "_law_graph") rfl)
  obtain ⟨fd__law_degree, D__law_degree⟩ := c.fun_ 3 (x := "_law_degree") (st := s__law_degree)
  have g__law_degree := He.glo_ok X G (c.fact 3 (f := .glo "_law_degree") rfl)
  obtain ⟨fd__law_marks, D__law_marks⟩ := c.fun_ 4 (x := "_law_marks") (st := s__law_marks)
  have g__law_marks := He.glo_ok X G (c.fact 4 (f := .glo "_law_marks") rfl)
  obtain ⟨fd_in_range, D_in_range⟩ := c.fun_ 5 (x := "in_range") (st := s_in_range)
  have g_in_range := He.glo_ok X G (c.fact 5 (f := .glo "in_range") rfl)
  obtain ⟨fd_is_edge, D_is_edge⟩ := c.fun_ 6 (x := "is_edge") (st := s_is_edge)
  have g_is_edge := He.glo_ok X G (c.fact 6 (f := .glo "is_edge") rfl)
  obtain ⟨fd_is_graph, D_is_graph⟩ := c.fun_ 7 (x := "is_graph") (st := s_is_graph)
  have g_is_graph := He.glo_ok X G (c.fact 7 (f := .glo "is_graph") rfl)
  obtain ⟨fd_check_graph, D_check_graph⟩ := c.fun_ 8 (x := "check_graph") (st := s_check_graph)
  have g_check_graph := He.glo_ok X G (c.fact 8 (f := .glo "check_graph") rfl)
  obtain ⟨fd_is_rising, D_is_rising⟩ := c.fun_ 9 (x := "is_rising") (st := s_is_rising)
  have g_is_rising := He.glo_ok X G (c.fact 9 (f := .glo "is_rising") rfl)
  obtain ⟨fd_are_marks, D_are_marks⟩ := c.fun_ 10 (x := "are_marks") (st := s_are_marks)
  have g_are_marks := He.glo_ok X G (c.fact 10 (f := .glo "are_marks") rfl)
  obtain ⟨fd_check_marks, D_check_marks⟩ := c.fun_ 11 (x := "check_marks") (st := s_check_marks)
  have g_check_marks := He.glo_ok X G (c.fact 11 (f := .glo "check_marks") rfl)
  obtain ⟨fd_Planner___init__, D_Planner___init__⟩ := c.funM 12 (m := "__init__") (q := "Planner.__init__") (st := s_Planner___init__)
  obtain ⟨fd_Planner_duplicate, D_Planner_duplicate⟩ := c.funM 13 (m := "duplicate") (q := "Planner.duplicate") (st := s_Planner_duplicate)
  obtain ⟨fd_paths_from, D_paths_from⟩ := c.fun_ 14 (x := "paths_from") (st := s_paths_from)
  have g_paths_from := He.glo_ok X G (c.fact 12 (f := .glo "paths_from") rfl)
  obtain ⟨fd_every_path, D_every_path⟩ := c.fun_ 15 (x := "every_path") (st := s_every_path)
  have g_every_path := He.glo_ok X G (c.fact 13 (f := .glo "every_path") rfl)
  obtain ⟨fd_pack, D_pack⟩ := c.fun_ 16 (x := "pack") (st := s_pack)
  have g_pack := He.glo_ok X G (c.fact 14 (f := .glo "pack") rfl)
  obtain ⟨fd_system_of, D_system_of⟩ := c.fun_ 17 (x := "system_of") (st := s_system_of)
  have g_system_of := He.glo_ok X G (c.fact 15 (f := .glo "system_of") rfl)
  obtain ⟨fd_system, D_system⟩ := c.fun_ 18 (x := "system") (st := s_system)
  have g_system := He.glo_ok X G (c.fact 16 (f := .glo "system") rfl)
  obtain ⟨fd_is_path_of, D_is_path_of⟩ := c.fun_ 19 (x := "is_path_of") (st := s_is_path_of)
  have g_is_path_of := He.glo_ok X G (c.fact 17 (f := .glo "is_path_of") rfl)
  obtain ⟨fd_is_system, D_is_system⟩ := c.fun_ 20 (x := "is_system") (st := s_is_system)
  have g_is_system := He.glo_ok X G (c.fact 18 (f := .glo "is_system") rfl)
  obtain ⟨fd_Planner_rest, D_Planner_rest⟩ := c.funM 21 (m := "rest") (q := "Planner.rest") (st := s_Planner_rest)
  obtain ⟨fd_Planner_take, D_Planner_take⟩ := c.funM 22 (m := "take") (q := "Planner.take") (st := s_Planner_take)
  obtain ⟨fd_Planner_state, D_Planner_state⟩ := c.funM 23 (m := "state") (q := "Planner.state") (st := s_Planner_state)
  obtain ⟨fd_Planner___len__, D_Planner___len__⟩ := c.funM 24 (m := "__len__") (q := "Planner.__len__") (st := s_Planner___len__)
  obtain ⟨fd_text_of, D_text_of⟩ := c.fun_ 25 (x := "text_of") (st := s_text_of)
  have g_text_of := He.glo_ok X G (c.fact 19 (f := .glo "text_of") rfl)
  obtain ⟨fd_Planner___str__, D_Planner___str__⟩ := c.funM 26 (m := "__str__") (q := "Planner.__str__") (st := s_Planner___str__)
  obtain ⟨fd_Planner___eq__, D_Planner___eq__⟩ := c.funM 27 (m := "__eq__") (q := "Planner.__eq__") (st := s_Planner___eq__)
  obtain ⟨fd_Planner_undo, D_Planner_undo⟩ := c.funM 28 (m := "undo") (q := "Planner.undo") (st := s_Planner_undo)
  obtain ⟨fd__law_failed, D__law_failed⟩ := c.fun_ 29 (x := "_law_failed") (st := s__law_failed)
  have g__law_failed := He.glo_ok X G (c.fact 20 (f := .glo "_law_failed") rfl)
  obtain ⟨fd_law, D_law⟩ := c.fun_ 30 (x := "law") (st := s_law)
  have g_law := He.glo_ok X G (c.fact 21 (f := .glo "law") rfl)
  obtain ⟨fdL, FL⟩ := c.funD 30 (x := "law") (st := s_law)
  have T : Blt mg := ⟨He.free_ok X G (c.fact 32 (f := .free "isinstance") rfl), He.free_ok X G (c.fact 33 (f := .free "int") rfl), He.free_ok X G (c.fact 34 (f := .free "bool") rfl), He.free_ok X G (c.fact 35 (f := .free "tuple") rfl), He.free_ok X G (c.fact 36 (f := .free "str") rfl), He.free_ok X G (c.fact 37 (f := .free "len") rfl), He.free_ok X G (c.fact 38 (f := .free "zip") rfl), He.free_ok X G (c.fact 39 (f := .free "range") rfl), He.free_ok X G (c.fact 40 (f := .free "enumerate") rfl), He.free_ok X G (c.fact 41 (f := .free "min") rfl), He.free_ok X G (c.fact 42 (f := .free "max") rfl), He.free_ok X G (c.fact 43 (f := .free "sorted") rfl), He.free_ok X G (c.fact 44 (f := .free "set") rfl), He.free_ok X G (c.fact 45 (f := .free "sum") rfl), He.free_ok X G (c.fact 46 (f := .free "list") rfl)⟩
  have g_Planner := He.glo_ok X G (c.fact 22 (f := .glo "Planner") rfl)
  have c_MAX_EDGES := He.int_ok X G (c.fact 47 (f := .int "MAX_EDGES" 9) rfl)
  have c_MAX_VERTICES := He.int_ok X G (c.fact 48 (f := .int "MAX_VERTICES" 6) rfl)
  have g_InvalidGraph := He.glo_ok X G (c.fact 49 (f := .glo "InvalidGraph") rfl)
  have g_InvalidMarks := He.glo_ok X G (c.fact 51 (f := .glo "InvalidMarks") rfl)
  have g_InvalidPath := He.glo_ok X G (c.fact 53 (f := .glo "InvalidPath") rfl)
  have g_NothingToUndo := He.glo_ok X G (c.fact 55 (f := .glo "NothingToUndo") rfl)
  have X_InvalidGraph : ExcT K mg "InvalidGraph" := excT_of (c.fact 50 (f := .exc "InvalidGraph") rfl) g_InvalidGraph
  have X_InvalidMarks : ExcT K mg "InvalidMarks" := excT_of (c.fact 52 (f := .exc "InvalidMarks") rfl) g_InvalidMarks
  have X_InvalidPath : ExcT K mg "InvalidPath" := excT_of (c.fact 54 (f := .exc "InvalidPath") rfl) g_InvalidPath
  have X_NothingToUndo : ExcT K mg "NothingToUndo" := excT_of (c.fact 56 (f := .exc "NothingToUndo") rfl) g_NothingToUndo
  have m := c.more
  obtain ⟨mx0, m⟩ := He.ba m
  have QX0 : XQ K mg ["InvalidGraph", "InvalidMarks", "InvalidPath", "NothingToUndo"] [] := xq_of X G mx0
  obtain ⟨mp, m⟩ := He.ba m
  have PT : PlT K := plT_of mp
  obtain ⟨mq, m⟩ := He.ba m
  have PQ : PlQ K := plQ_of mq
  have e := hfa.symm.trans g_law
  cases e
  have b := FunD.bindsA (ps := ["script"]) FL fun _ _ _ _ _ _ us hl => match us, hl with | [_], _ => rfl
  have efd : fdL = fd_law := fun_same (He5.fun_of FL) D_law
  subst efd
  refine ⟨fdL, fun s v => b s [v] rfl, fun base _ _ => ?_⟩
  have C__law_cell : Cal P w K mg base 1 "_law_cell" ["script", "k"] F__law_cell := cal_of D__law_cell g__law_cell (ok__law_cell D__law_cell T) (D__law_cell.binds fun _ _ _ _ _ _ us hl => match us, hl with | [_, _], _ => rfl)
  have C__law_row : Cal P w K mg base 2 "_law_row" ["script", "at"] F__law_row := cal_of D__law_row g__law_row (ok__law_row D__law_row T (C__law_cell.mono (by decide))) (D__law_row.binds fun _ _ _ _ _ _ us hl => match us, hl with | [_, _], _ => rfl)
  have C__law_graph : Cal P w K mg base 3 "_law_graph" ["script", "at", "most"] F__law_graph := cal_of D__law_graph g__law_graph (ok__law_graph D__law_graph T (C__law_row.mono (by decide))) (D__law_graph.binds fun _ _ _ _ _ _ us hl => match us, hl with | [_, _, _], _ => rfl)
  have C__law_degree : Cal P w K mg base 1 "_law_degree" ["graph", "vertex"] F__law_degree := cal_of D__law_degree g__law_degree (ok__law_degree D__law_degree T) (D__law_degree.binds fun _ _ _ _ _ _ us hl => match us, hl with | [_, _], _ => rfl)
  have C__law_marks : Cal P w K mg base 3 "_law_marks" ["script", "at", "graph"] F__law_marks := cal_of D__law_marks g__law_marks (ok__law_marks D__law_marks T (C__law_row.mono (by decide)) (C__law_degree.mono (by decide))) (D__law_marks.binds fun _ _ _ _ _ _ us hl => match us, hl with | [_, _, _], _ => rfl)
  have C_in_range : Cal P w K mg base 1 "in_range" ["value", "low", "high"] F_in_range := cal_of D_in_range g_in_range (ok_in_range D_in_range T) (D_in_range.binds fun _ _ _ _ _ _ us hl => match us, hl with | [_, _, _], _ => rfl)
  have C_is_edge : Cal P w K mg base 2 "is_edge" ["vertices", "value"] F_is_edge := cal_of D_is_edge g_is_edge (ok_is_edge D_is_edge T (C_in_range.mono (by decide))) (D_is_edge.binds fun _ _ _ _ _ _ us hl => match us, hl with | [_, _], _ => rfl)
  have C_is_graph : Cal P w K mg base 3 "is_graph" ["value"] F_is_graph := cal_of D_is_graph g_is_graph (ok_is_graph D_is_graph T c_MAX_EDGES c_MAX_VERTICES (C_in_range.mono (by decide)) (C_is_edge.mono (by decide))) (D_is_graph.binds fun _ _ _ _ _ _ us hl => match us, hl with | [_], _ => rfl)
  have C_check_graph : Cal P w K mg base 4 "check_graph" ["graph"] F_check_graph := cal_of D_check_graph g_check_graph (ok_check_graph D_check_graph T X_InvalidGraph (C_is_graph.mono (by decide))) (D_check_graph.binds fun _ _ _ _ _ _ us hl => match us, hl with | [_], _ => rfl)
  have C_is_rising : Cal P w K mg base 2 "is_rising" ["value", "count"] F_is_rising := cal_of D_is_rising g_is_rising (ok_is_rising D_is_rising T (C_in_range.mono (by decide))) (D_is_rising.binds fun _ _ _ _ _ _ us hl => match us, hl with | [_, _], _ => rfl)
  have C_are_marks : Cal P w K mg base 3 "are_marks" ["graph", "value"] F_are_marks := cal_of D_are_marks g_are_marks (ok_are_marks D_are_marks T (C_is_rising.mono (by decide))) (D_are_marks.binds fun _ _ _ _ _ _ us hl => match us, hl with | [_, _], _ => rfl)
  have C_check_marks : Cal P w K mg base 5 "check_marks" ["graph", "marks"] F_check_marks := cal_of D_check_marks g_check_marks (ok_check_marks D_check_marks T X_InvalidMarks (C_check_graph.mono (by decide)) (C_are_marks.mono (by decide))) (D_check_marks.binds fun _ _ _ _ _ _ us hl => match us, hl with | [_, _], _ => rfl)
  have C_Planner___init__ : CalI P w K mg base 6 ["self", "graph", "marks"] F_Planner___init__ := ⟨_, _, _, ok_Planner___init__ D_Planner___init__ PT (C_check_marks.mono (by decide)), He.mkr_ok (c.fact 23 (f := .mkr "Planner") rfl), g_Planner, D_Planner___init__.binds fun _ _ _ _ _ _ us hl => match us, hl with | [_, _, _], _ => rfl, init_I F_check_marks⟩
  have C_Planner_duplicate : CalM P w K mg base 8 "duplicate" ["self"] F_Planner_duplicate := ⟨_, _, DL.FnOk.made (ok_Planner_duplicate D_Planner_duplicate T PT (C_Planner___init__.mono (by decide))), He.meth_ok (c.fact 24 (f := .meth "Planner" "duplicate") rfl), D_Planner_duplicate.binds fun _ _ _ _ _ _ us hl => match us, hl with | [_], _ => rfl⟩
  have R_paths_from : ∀ k, Cal P w K mg base (k + 1) "paths_from" ["graph", "marks", "path", "used"] (F_paths_fromR k) := by
    intro k
    induction k with
    | zero => exact cal_of D_paths_from g_paths_from (def_bad D_paths_from sc_paths_from) (D_paths_from.binds fun _ _ _ _ _ _ us hl => match us, hl with | [_, _, _, _], _ => rfl)
    | succ k ih => exact Cal.mono (cal_of D_paths_from g_paths_from (ok_paths_from D_paths_from T ih) (D_paths_from.binds fun _ _ _ _ _ _ us hl => match us, hl with | [_, _, _, _], _ => rfl)) (by omega)
  have C_paths_from : Cal P w K mg base 12 "paths_from" ["graph", "marks", "path", "used"] F_paths_from := R_paths_from 11
  have C_every_path : Cal P w K mg base 13 "every_path" ["graph", "marks"] F_every_path := cal_of D_every_path g_every_path (ok_every_path D_every_path T (C_paths_from.mono (by decide))) (D_every_path.binds fun _ _ _ _ _ _ us hl => match us, hl with | [_, _], _ => rfl)
  have R_pack : ∀ k, CalO P w K mg base (k + 1) "pack" ["rows", "place", "used", "chosen", "best"] (F_packR k) := by
    intro k
    induction k with
    | zero => exact calO_of D_pack g_pack (defO_bad D_pack sc_pack) (D_pack.binds fun _ _ _ _ _ _ us hl => match us, hl with | [_, _, _, _, _], _ => rfl)
    | succ k ih => exact CalO.mono (calO_of D_pack g_pack (ok_pack D_pack T ih) (D_pack.binds fun _ _ _ _ _ _ us hl => match us, hl with | [_, _, _, _, _], _ => rfl)) (by omega)
  have C_pack : CalO P w K mg base 12 "pack" ["rows", "place", "used", "chosen", "best"] F_pack := R_pack 11
  have C_system_of : Cal P w K mg base 14 "system_of" ["graph", "marks"] F_system_of := cal_of D_system_of g_system_of (ok_system_of D_system_of T (C_every_path.mono (by decide)) (C_pack.mono (by decide))) (D_system_of.binds fun _ _ _ _ _ _ us hl => match us, hl with | [_, _], _ => rfl)
  have C_system : Cal P w K mg base 15 "system" ["graph", "marks"] F_system := cal_of D_system g_system (ok_system D_system T (C_check_marks.mono (by decide)) (C_system_of.mono (by decide))) (D_system.binds fun _ _ _ _ _ _ us hl => match us, hl with | [_, _], _ => rfl)
  have C_is_path_of : Cal P w K mg base 2 "is_path_of" ["graph", "marks", "value"] F_is_path_of := cal_of D_is_path_of g_is_path_of (ok_is_path_of D_is_path_of T (C_in_range.mono (by decide))) (D_is_path_of.binds fun _ _ _ _ _ _ us hl => match us, hl with | [_, _, _], _ => rfl)
  have C_is_system : Cal P w K mg base 6 "is_system" ["graph", "marks", "value"] F_is_system := cal_of D_is_system g_is_system (ok_is_system D_is_system T (C_check_marks.mono (by decide)) (C_is_path_of.mono (by decide))) (D_is_system.binds fun _ _ _ _ _ _ us hl => match us, hl with | [_, _, _], _ => rfl)
  have C_Planner_rest : CalM P w K mg base 1 "rest" ["self"] F_Planner_rest := ⟨_, _, ok_Planner_rest D_Planner_rest T PT, He.meth_ok (c.fact 25 (f := .meth "Planner" "rest") rfl), D_Planner_rest.binds fun _ _ _ _ _ _ us hl => match us, hl with | [_], _ => rfl⟩
  have C_Planner_take : CalM P w K mg base 15 "take" ["self", "path"] F_Planner_take := ⟨_, _, ok_Planner_take D_Planner_take T X_InvalidPath PT (C_system_of.mono (by decide)) (C_is_path_of.mono (by decide)) (C_is_system.mono (by decide)) (C_Planner_rest.mono (by decide)), He.meth_ok (c.fact 26 (f := .meth "Planner" "take") rfl), D_Planner_take.binds fun _ _ _ _ _ _ us hl => match us, hl with | [_, _], _ => rfl⟩
  have W_Planner_take : CalW P w K mg base 15 "take" ["self", "path"] PM_Planner_take := ⟨_, _, okW_Planner_take D_Planner_take T X_InvalidPath PT (C_system_of.mono (by decide)) (C_is_path_of.mono (by decide)) (C_is_system.mono (by decide)) (C_Planner_rest.mono (by decide)), He.meth_ok (c.fact 26 (f := .meth "Planner" "take") rfl), D_Planner_take.binds fun _ _ _ _ _ _ us hl => match us, hl with | [_, _], _ => rfl⟩
  have C_Planner_state : CalM P w K mg base 1 "state" ["self"] F_Planner_state := ⟨_, _, ok_Planner_state D_Planner_state T PT, He.meth_ok (c.fact 27 (f := .meth "Planner" "state") rfl), D_Planner_state.binds fun _ _ _ _ _ _ us hl => match us, hl with | [_], _ => rfl⟩
  have C_Planner___len__ : CalM P w K mg base 1 "__len__" ["self"] F_Planner___len__ := ⟨_, _, ok_Planner___len__ D_Planner___len__ T PT, He.meth_ok (c.fact 28 (f := .meth "Planner" "__len__") rfl), D_Planner___len__.binds fun _ _ _ _ _ _ us hl => match us, hl with | [_], _ => rfl⟩
  have C_text_of : Cal P w K mg base 1 "text_of" ["graph", "marks"] F_text_of := cal_of D_text_of g_text_of (ok_text_of D_text_of T) (D_text_of.binds fun _ _ _ _ _ _ us hl => match us, hl with | [_, _], _ => rfl)
  have C_Planner___str__ : CalM P w K mg base 2 "__str__" ["self"] F_Planner___str__ := ⟨_, _, ok_Planner___str__ D_Planner___str__ T PT (C_text_of.mono (by decide)) (C_Planner_rest.mono (by decide)), He.meth_ok (c.fact 29 (f := .meth "Planner" "__str__") rfl), D_Planner___str__.binds fun _ _ _ _ _ _ us hl => match us, hl with | [_], _ => rfl⟩
  have C_Planner___eq__ : CalM P w K mg base 2 "__eq__" ["self", "other"] F_Planner___eq__ := ⟨_, _, ok_Planner___eq__ D_Planner___eq__ T PT PQ g_Planner (C_Planner_state.mono (by decide)), He.meth_ok (c.fact 30 (f := .meth "Planner" "__eq__") rfl), D_Planner___eq__.binds fun _ _ _ _ _ _ us hl => match us, hl with | [_, _], _ => rfl⟩
  have C_Planner_undo : CalM P w K mg base 1 "undo" ["self"] F_Planner_undo := ⟨_, _, ok_Planner_undo D_Planner_undo T X_NothingToUndo PT, He.meth_ok (c.fact 31 (f := .meth "Planner" "undo") rfl), D_Planner_undo.binds fun _ _ _ _ _ _ us hl => match us, hl with | [_], _ => rfl⟩
  have W_Planner_undo : CalW P w K mg base 1 "undo" ["self"] PM_Planner_undo := ⟨_, _, okW_Planner_undo D_Planner_undo T X_NothingToUndo PT, He.meth_ok (c.fact 31 (f := .meth "Planner" "undo") rfl), D_Planner_undo.binds fun _ _ _ _ _ _ us hl => match us, hl with | [_], _ => rfl⟩
  have C__law_failed : Cal P w K mg base 16 "_law_failed" ["work", "mode", "odd"] F__law_failed := cal_of D__law_failed g__law_failed (ok__law_failed D__law_failed T PT QX0 (C_Planner_take.mono (by decide)) (C_Planner_undo.mono (by decide))) (D__law_failed.binds fun _ _ _ _ _ _ us hl => match us, hl with | [_, _, _], _ => rfl)
  exact ok_law D_law T PT PQ (C__law_row.mono (by decide)) (C__law_graph.mono (by decide)) (C__law_marks.mono (by decide)) (C_Planner___init__.mono (by decide)) (C_Planner_duplicate.mono (by decide)) (C_system.mono (by decide)) (W_Planner_take.mono (by decide)) (C_Planner_state.mono (by decide)) (C_Planner_rest.mono (by decide)) (C_Planner___len__.mono (by decide)) (C_Planner___str__.mono (by decide)) (C_Planner___eq__.mono (by decide)) (C__law_failed.mono (by decide))
end Pg
open PySem PySem.W PySem.Calls PyProof.Rows
set_option maxHeartbeats 0 in
theorem PySem.Challenge.cw_markedpaths_k15_failed_calls_holds : PySem.Challenge.rw_markedpaths_k15_failed_calls.Holds := by
  w_on; o_law
  refine HandSHeadRun.head_any (r := OpenLaw.row PySem.Challenge.rw_markedpaths_k15_failed_calls) (q := view (OpenLaw.row PySem.Challenge.rw_markedpaths_k15_failed_calls).prog [35]) (H := Pg.hk) (ob := Pg.ob) (M := 4000) (loose := Pg.loose) (d := HandSHeadRun.topDef (OpenLaw.row PySem.Challenge.rw_markedpaths_k15_failed_calls).prog 35) (kwd := []) Pg.ob_eq
    (by kernel_rfl) (fun s => by kernel_rfl) Pg.run (by kernel_rfl) (by kernel_rfl) (by kernel_rfl) (by rfl) (by first | assumption | decide +kernel) (by decide +kernel) ⟨rfl, rfl, rfl, rfl, rfl, by decide +kernel⟩ ?hw ?hc
  case hw => w_witness2
  case hc =>
    refine DL.walk_w (l := PySem.Challenge.rw_markedpaths_k15_failed_calls) (n := 63) (k := 17) (x := "script") (CX := fun w => L2.CX (PySem.Challenge.rw_markedpaths_k15_failed_calls).prog w) rfl (by decide) (by kernel_rfl) ⟨rfl, by decide, by decide⟩ ?F (fun w H s e s' z => DL.cx_no H s e s' z)
    intro w mg fa h Y G hmg0
    obtain ⟨K, KX, c⟩ := Y
    have hmg : mg ("law" : PySem.Str) = some (.ref fa) := by
      have e : (HandSHeadRun.topDef (OpenLaw.row PySem.Challenge.rw_markedpaths_k15_failed_calls).prog 35).name = ("law" : PySem.Str) := by kernel_rfl
      rw [← e]; exact hmg0
    obtain ⟨fd, hb, hF⟩ := Pg.facts (P := (PySem.Challenge.rw_markedpaths_k15_failed_calls).prog) (w := w) KX G hmg c
    exact ⟨K, fd, DL.spD K mg Pg.F_law, KX, hb, fun H a ns hl _ hS => DL.law_sp Pg.law_true H a ns hl hS, hF⟩
