import PyProof.Rows.All
import Wide.All
import OpenK.AllK
import Wide.FinOn
import HandS.TupAny
import HandS.TupMul
import HandS.IsInst
import HandS.ForMost
import HandS.Evl
import HandS.TupLe
import HandS.Flow
import HandS.Style
import HandS.Wide
import HandS.WideMore
import HandS.Gcd
import KE.KMathGC
import HandS.TupLen
import HandS.Rev
import HandS.Zip
import HandS.Codes
import KE.KTupSum
import HandS.NoneIn
import HandS.StrMore
import HandS.Strs
import HandS.Deep
import HandS.SetFor
import HandS.SortInts
import HandS.DictComp
import KE.KDictPairs
import HandS.WideBits
import KE.GoesEnum
import KE.GoesZip
import KE.GoesMore
import KE.KDictZip
import PyProof.CollectWalk
import PyProof.TupleOfGen
import HandS.Conv
import HandS.ReplaceLit
import HandS.More
import HandS.HeadHook3
import HandS.Text
import KE.IntTextLaws
import PySem.Challenge.RW_truewheel_k27_plain_there_and_back
set_option Elab.async false
set_option linter.all false
set_option maxRecDepth 100000
set_option maxHeartbeats 4000000
/-! DG: tuples that are made, with their objects known (a plain tuple, without a dict of its own). -/
namespace DL
open PySem L2 PyProof.Rows
/-- a tuple's object -/
abbrev gO (its : List Value) : Obj := { cls := .type "tuple", data := .seq its.toArray }
section
variable {X : Cx} {pins : List (Addr × Obj)} {σ : L2.St} {H : Hp} {s : Shared} {xs : List V} {its : List Value}
theorem laidG (I : Inv X pins σ H s) (r : Vals xs its) (hz : xs.length ≤ sizeLine) (t' : Nat) : Inv X pins σ (upd H s.heap.objs.size (.frz (gO its) (.tup xs))) { s with heap := s.heap.push (gO its), toks := t' } :=
  Inv.laid (o := .frz (gO its) (.tup xs)) I (fun _ _ q => Heap.get?_push_of_some _ q) (Nat.le_refl _) ⟨Heap.get?_push_size _ rfl, hz, its, r, IsTup.new _ _⟩
def tTupG (t : TA) : TE := fun σ H Q => t σ H fun xs H1 => xs.length ≤ sizeLine ∧ ∀ p its, H1 p = none → Q (.ref p) (upd H1 p (.frz (gO its) (.tup xs)))
theorem pe_tupG {es : List Expr} {k : Nat} {pos : Pos} {t : TA} (ht : PA X es t) : PE X (.Tuple es k pos) (tTupG t) := PE.mk fun pins s σ H Q I hq =>
  wpAny_Tuple_spliced (thn (ht.run pos pins s σ H _ I hq) fun us s1 ⟨xs, H1, I1, r, z, q⟩ =>
    ⟨(r.length ▸ z : us.length ≤ sizeLine), .ref s1.heap.objs.size, _, laidG I1 r z s1.toks, rfl, q _ us (I1.hok.fresh (Nat.le_refl _))⟩)
def rTupG (K : PySem.W.Frag) : List V → Hp → VK → Prop := fun xs H Q => ∃ p ys, xs = [.ref p] ∧ ((SqL K H p ys ∧ ∀ l its, H l = none → Q (.ref l) (upd H l (.frz (gO its) (.tup ys)))) ∨ (SqT K H p ys ∧ Q (.ref p) H))
theorem call_tupleG : CallR X (.type "tuple") (rTupG X.K) := fun pins s σ H xs us Q I r h => by
  obtain ⟨p, ys, e, ⟨hq, q⟩ | hq⟩ := h
  · subst e
    obtain ⟨u, eu, ru⟩ := vals1 r
    subst eu
    cases ru
    obtain ⟨its, rv, pl, hz⟩ := I.list hq
    have hl := rv.length
    refine call_tuple_list pl.isList (fun h2 kept => ?_) (by rw [List.size_toArray]; omega)
    have J : Inv X pins σ H { s with heap := h2 } := I.kept (t' := s.toks) kept
    exact ⟨.ref h2.objs.size, _, laidG J rv hz s.toks, rfl, q _ its (J.hok.fresh (Nat.le_refl _))⟩
  · exact call_tuple_of pins s σ H xs us Q I r ⟨p, ys, e, .inr hq⟩
/-- t + u -/
def rCatG (K : PySem.W.Frag) : R2 := fun x y H Q => ∃ a b xs ys, x = .ref a ∧ y = .ref b ∧ SqT K H a xs ∧ SqT K H b ys ∧ xs.length + ys.length ≤ sizeLine ∧
  (xs = [] → Q (.ref b) H) ∧ (xs ≠ [] → ys = [] → Q (.ref a) H) ∧ (xs ≠ [] → ys ≠ [] → ∀ p its, H p = none → Q (.ref p) (upd H p (.frz (gO its) (.tup (xs ++ ys)))))
theorem op_catG : OpR X (binaryOp .Add) (rCatG X.K) := fun pins s σ H x y v u Q I rx ry h => by
  obtain ⟨a, b, xs, ys, ex, ey, ha, hb, hz, q0, q1, q2⟩ := h
  rcases List.eq_nil_or_concat xs with hx | ⟨_, _, hx⟩
  · exact op_catA pins s σ H x y v u Q I rx ry ⟨a, b, xs, ys, ex, ey, ha, hb, hz, q0, q1, fun z => absurd hx z⟩
  · have hx : xs ≠ [] := by rw [hx]; simp
    subst ex ey
    cases rx
    cases ry
    obtain ⟨ia, ra, pa, _⟩ := I.tuple ha
    obtain ⟨ib, rb, pb, _⟩ := I.tuple hb
    refine HT.cat_tup pa pb (fun z => hx (ra.nil_iff.mp z)) (fun z => ?_) (fun z => ?_) (by have := ra.length; have := rb.length; omega)
    · exact ⟨.ref a, H, I, rfl, q1 hx (rb.nil_iff.mp z)⟩
    · exact ⟨.ref s.heap.objs.size, _, laidG I (ra.append rb) (by rw [List.length_append]; exact hz) s.toks, rfl, q2 hx (fun w => z (rb.nil_iff.mpr w)) _ _ (I.hok.fresh (Nat.le_refl _))⟩
/-- t[lo:hi] -/
def rSlG (K : PySem.W.Frag) : V → Option Int → Option Int → Hp → VK → Prop := fun x lo hi H Q => ∃ a xs, x = .ref a ∧ SqT K H a xs ∧
  (HT.sIx xs.length 0 lo = 0 ∧ HT.sIx xs.length xs.length hi = xs.length → Q (.ref a) H) ∧ (¬ (HT.sIx xs.length 0 lo = 0 ∧ HT.sIx xs.length xs.length hi = xs.length) → ∀ p its, H p = none → Q (.ref p) (upd H p (.frz (gO its) (.tup (cutV xs lo hi)))))
theorem sl_tupG : SlR X (rSlG X.K) := fun pins s σ H x v vl vu lo hi sl Q I rx hs pl pu h => by
  obtain ⟨a, xs, ex, hx, q1, q2⟩ := h
  by_cases hw : HT.sIx xs.length 0 lo = 0 ∧ HT.sIx xs.length xs.length hi = xs.length
  · exact sl_tupA pins s σ H x v vl vu lo hi sl Q I rx hs pl pu ⟨a, xs, ex, hx, q1, fun z => absurd hw z⟩
  · subst ex
    cases rx
    obtain ⟨its, r, ht, hz⟩ := I.tuple hx
    have hl : its.toArray.size = xs.length := by rw [List.size_toArray]; exact r.length.symm
    refine ⟨"tuple", _, PyProof.Rows.slot_tuple_getitem.lookup, ht.typeIs, HT.getItem_tuple_cut ht hs pl pu (by rw [hl]; exact hw) ?_ (by rw [hl]; exact hz)⟩
    rw [hl]
    exact ⟨.ref s.heap.objs.size, _, laidG I ((r.drop (HT.sIx xs.length 0 lo)).take (HT.sIx xs.length xs.length hi - HT.sIx xs.length 0 lo)) (Nat.le_trans (cutV_length xs lo hi) hz) s.toks, rfl, q2 hw _ _ (I.hok.fresh (Nat.le_refl _))⟩
end
end DL

/-! DL: a data layer over HandS. An expression refines a data-level meaning, a statement a data-level step. -/
namespace DL
open PySem L2

/-! ### data, cells, results -/
inductive D where
  | none | bool (b : Bool) | int (i : Int) | str (s : Str) | list (xs : List D) | tuple (xs : List D) | tupW (xs : List D) | dict (t : Bool) (ks vs : List D) | ro (xs : List D)

/-- what a local variable holds: frozen data, or a list or a dict of its own (p: handed in to be changed) -/
inductive Ce where
  | f (d : D) | l (p : Bool) (ds : List D) | k (p t : Bool) (ks vs : List D)
def Ce.ow : Ce → Bool
  | .f _ => false | .l _ _ => true | .k _ _ _ _ => true
def Ce.io : Ce → Bool
  | .f _ => false | .l p _ => p | .k p _ _ _ => p
def Ce.d : Ce → D
  | .f d => d | .l _ ds => .list ds | .k _ t ks vs => .dict t ks vs
def Ce.mem : Ce → List D
  | .f _ => [] | .l _ ds => ds | .k _ _ _ vs => vs
/-- the sort of a cell -/
def Ce.kd : Ce → Nat
  | .f _ => 0 | .l false _ => 1 | .l true _ => 2 | .k false false _ _ => 3 | .k true false _ _ => 4 | .k false true _ _ => 5 | .k true true _ _ => 6
/-- the cell as a callee sees it -/
def Ce.lent : Ce → Ce
  | .f d => .f d | .l _ ds => .l true ds | .k _ t ks vs => .k true t ks vs
/-- what a callee left, with the mark of the caller's cell -/
def Ce.back : Ce → Ce → Ce
  | .l p _, .l _ ds => .l p ds | .k p _ _ _, .k _ t ks vs => .k p t ks vs | c, _ => c

inductive Rs (α : Type) where
  | ok (a : α) | ex (n : String) (ds : List D) | no
def Rs.bind {α β : Type} : Rs α → (α → Rs β) → Rs β
  | .ok a, f => f a
  | .ex n ds, _ => .ex n ds
  | .no, _ => .no
@[simp] theorem Rs.bind_ok {α β : Type} (a : α) (f : α → Rs β) : (Rs.ok a).bind f = f a := rfl
@[simp] theorem Rs.bind_ex {α β : Type} (n : String) (ds : List D) (f : α → Rs β) : (Rs.ex n ds).bind f = .ex n ds := rfl
@[simp] theorem Rs.bind_no {α β : Type} (f : α → Rs β) : (Rs.no : Rs α).bind f = .no := rfl
theorem Rs.bind_eq {α β : Type} {r : Rs α} {f : α → Rs β} {b : β} (h : r.bind f = .ok b) : ∃ a, r = .ok a ∧ f a = .ok b := by
  cases r with
  | ok a => exact ⟨a, rfl, h⟩
  | ex n ds => cases h
  | no => cases h
abbrev En := List (Option Ce)
abbrev M (α : Type) := En → Rs (α × En)
def M.pure {α : Type} (a : α) : M α := fun e => .ok (a, e)
def M.bind {α β : Type} (m : M α) (f : α → M β) : M β := fun e => (m e).bind fun p => f p.1 p.2
@[simp] theorem M.pure_ap {α : Type} (a : α) (e : En) : M.pure a e = .ok (a, e) := Eq.trans rfl rfl
@[simp] theorem M.bind_ap {α β : Type} (m : M α) (f : α → M β) (e : En) : M.bind m f e = (m e).bind fun p => f p.1 p.2 := Eq.trans rfl rfl
theorem M.bind_eq {α β : Type} {m : M α} {f : α → M β} {e : En} {p : β × En} (h : M.bind m f e = .ok p) : ∃ a e1, m e = .ok (a, e1) ∧ f a e1 = .ok p := by
  obtain ⟨⟨a, e1⟩, h1, h2⟩ := Rs.bind_eq h
  exact ⟨a, e1, h1, h2⟩
def M.lift {α : Type} (r : Rs α) : M α := fun e => r.bind fun a => .ok (a, e)
@[simp] theorem M.lift_ap {α : Type} (r : Rs α) (e : En) : M.lift r e = r.bind fun a => .ok (a, e) := Eq.trans rfl rfl

inductive Out where
  | nx (e : En) | rt (c : Ce) (e : En) | bk (e : En) | ct (e : En) | ex (n : String) (ds : List D) | no

/-! ### data in the heap -/
def kD : Key → D
  | .inl i => .int i
  | .inr s => .str s
/-- a dict's object, by its keys and values -/
def DcO (t : Bool) (o : HO) (ks : List D) (xs : List V) : Prop :=
  (t = false ∧ ∃ kvs : List (Key × V), o = .dK kvs ∧ kvs.map (fun p => kD p.1) = ks ∧ kvs.map (·.2) = xs) ∨
    (t = true ∧ ∃ kvs : List (List Key × V), o = .dT kvs ∧ kvs.map (fun p => D.tuple (p.1.map kD)) = ks ∧ kvs.map (·.2) = xs)
/-- a tuple whose object is known: made by the law, or the module's own -/
def TupF (K : PySem.W.Frag) (F : Hp) (a : Addr) (its : List Value) (xs : List V) : Prop := F a = some (.frz (gO its) (.tup xs)) ∨ (K.lookup a = some (gO its) ∧ its.length ≤ sizeLine ∧ Vals xs its)
theorem TupF.mono {K : PySem.W.Frag} {F F' : Hp} {a : Addr} {its : List Value} {xs : List V} (h : TupF K F a its xs) (e : ∀ b o, F b = some o → F' b = some o) : TupF K F' a its xs := h.elim (fun h => .inl (e _ _ h)) .inr
theorem TupF.sq {K : PySem.W.Frag} {F : Hp} {a : Addr} {its : List Value} {xs : List V} (h : TupF K F a its xs) : SqT K F a xs := h.elim (fun h => .inl (.inr ⟨_, h⟩)) fun ⟨h, z, r⟩ => .inr ⟨_, its.toArray, 0, h, rfl, rfl, by simpa using z, by simpa using r⟩
mutual
inductive Dn (K : PySem.W.Frag) (F : Hp) : V → D → Prop
  | non : Dn K F .non .none
  | bl (b : Bool) : Dn K F (.bl b) (.bool b)
  | int (i : Int) : Dn K F (.int i) (.int i)
  | str (x : Str) : Dn K F (.str x) (.str x)
  | lst {a : Addr} {xs : List V} {ds : List D} : F a = some (.lst xs) → DnA K F xs ds → Dn K F (.ref a) (.list ds)
  | ro {a : Addr} {xs : List V} {ds : List D} : SqL K F a xs → DnA K F xs ds → Dn K F (.ref a) (.ro ds)
  | tup {a : Addr} {its : List Value} {xs : List V} {ds : List D} : TupF K F a its xs → DnA K F xs ds → Dn K F (.ref a) (.tuple ds)
  | tupW {a : Addr} {xs : List V} {ds : List D} : F a = some (.tup xs) → DnA K F xs ds → Dn K F (.ref a) (.tupW ds)
  | dic {a : Addr} {t : Bool} {o : HO} {xs : List V} {ks vs : List D} : F a = some o → DcO t o ks xs → DnA K F xs vs → Dn K F (.ref a) (.dict t ks vs)
inductive DnA (K : PySem.W.Frag) (F : Hp) : List V → List D → Prop
  | nil : DnA K F [] []
  | cons {v : V} {vs : List V} {d : D} {ds : List D} : Dn K F v d → DnA K F vs ds → DnA K F (v :: vs) (d :: ds)
end
abbrev Ex := Evl.Ex
section
variable {K : PySem.W.Frag} {F F' H H' : Hp}
mutual
theorem Dn.mono (e : Ex F F') : ∀ {v : V} {d : D}, Dn K F v d → Dn K F' v d
  | _, _, .non => .non
  | _, _, .bl b => .bl b
  | _, _, .int i => .int i
  | _, _, .str x => .str x
  | _, _, .lst h ha => .lst (e _ _ h) (DnA.mono e ha)
  | _, _, .ro h ha => .ro (Evl.ex_l e h) (DnA.mono e ha)
  | _, _, .tup h ha => .tup (h.mono e) (DnA.mono e ha)
  | _, _, .tupW h ha => .tupW (e _ _ h) (DnA.mono e ha)
  | _, _, .dic h hk ha => .dic (e _ _ h) hk (DnA.mono e ha)
theorem DnA.mono (e : Ex F F') : ∀ {vs : List V} {ds : List D}, DnA K F vs ds → DnA K F' vs ds
  | _, _, .nil => .nil
  | _, _, .cons h ha => .cons (Dn.mono e h) (DnA.mono e ha)
end
theorem DnA.len : ∀ {vs : List V} {ds : List D}, DnA K F vs ds → vs.length = ds.length
  | _, _, .nil => rfl
  | _, _, .cons _ ha => congrArg (· + 1) (DnA.len ha)
theorem DnA.get : ∀ {vs : List V} {ds : List D} {i : Nat} {d : D}, DnA K F vs ds → ds[i]? = some d → ∃ v, vs[i]? = some v ∧ Dn K F v d
  | _, _, _, _, .nil, h => by simp at h
  | _, _, 0, _, .cons h _, e => by
    simp at e
    subst e
    exact ⟨_, by simp, h⟩
  | _, _, i + 1, _, .cons _ ha, e => by
    simp at e
    obtain ⟨v, h1, h2⟩ := DnA.get ha e
    exact ⟨v, by simpa using h1, h2⟩
theorem DnA.getV : ∀ {vs : List V} {ds : List D} {i : Nat} {v : V}, DnA K F vs ds → vs[i]? = some v → ∃ d, ds[i]? = some d ∧ Dn K F v d
  | _, _, _, _, .nil, h => by simp at h
  | _, _, 0, _, .cons h _, e => by
    simp at e
    subst e
    exact ⟨_, by simp, h⟩
  | _, _, i + 1, _, .cons _ ha, e => by
    simp at e
    obtain ⟨v, h1, h2⟩ := DnA.getV ha e
    exact ⟨v, by simpa using h1, h2⟩
theorem DnA.app : ∀ {vs ws : List V} {ds es : List D}, DnA K F vs ds → DnA K F ws es → DnA K F (vs ++ ws) (ds ++ es)
  | _, _, _, _, .nil, h => h
  | _, _, _, _, .cons h ha, hb => .cons h (DnA.app ha hb)
theorem DnA.take : ∀ {vs : List V} {ds : List D} (n : Nat), DnA K F vs ds → DnA K F (vs.take n) (ds.take n)
  | _, _, 0, _ => by simpa using DnA.nil
  | _, _, n + 1, .nil => by simpa using DnA.nil
  | _, _, n + 1, .cons h ha => by simpa using DnA.cons h (DnA.take n ha)
theorem DnA.drop : ∀ {vs : List V} {ds : List D} (n : Nat), DnA K F vs ds → DnA K F (vs.drop n) (ds.drop n)
  | _, _, 0, h => by simpa using h
  | _, _, n + 1, .nil => by simpa using DnA.nil
  | _, _, n + 1, .cons h ha => by simpa using DnA.drop n ha
theorem DnA.set : ∀ {vs : List V} {ds : List D} {v : V} {d : D} (n : Nat), DnA K F vs ds → Dn K F v d → DnA K F (vs.set n v) (ds.set n d)
  | _, _, _, _, _, .nil, _ => by simpa using DnA.nil
  | _, _, _, _, 0, .cons _ ha, h => by simpa using DnA.cons h ha
  | _, _, _, _, n + 1, .cons h ha, h' => by simpa using DnA.cons h (DnA.set n ha h')
theorem DnA.rev : ∀ {vs : List V} {ds : List D}, DnA K F vs ds → DnA K F vs.reverse ds.reverse
  | _, _, .nil => .nil
  | _, _, .cons h ha => by
    rw [List.reverse_cons, List.reverse_cons]
    exact DnA.app (DnA.rev ha) (.cons h .nil)
theorem Dn.list_inv {v : V} {ds : List D} (h : Dn K F v (.list ds)) : ∃ a xs, v = .ref a ∧ F a = some (.lst xs) ∧ DnA K F xs ds := by
  cases h with
  | lst h ha => exact ⟨_, _, rfl, h, ha⟩
theorem Dn.ro_inv {v : V} {ds : List D} (h : Dn K F v (.ro ds)) : ∃ a xs, v = .ref a ∧ SqL K F a xs ∧ DnA K F xs ds := by
  cases h with
  | ro h ha => exact ⟨_, _, rfl, h, ha⟩
theorem Dn.tuple_inv {v : V} {ds : List D} (h : Dn K F v (.tuple ds)) : ∃ a xs, v = .ref a ∧ SqT K F a xs ∧ DnA K F xs ds := by
  cases h with
  | tup h ha => exact ⟨_, _, rfl, h.sq, ha⟩
theorem Dn.tuple_invS {v : V} {ds : List D} (h : Dn K F v (.tuple ds)) : ∃ a its xs, v = .ref a ∧ TupF K F a its xs ∧ DnA K F xs ds := by
  cases h with
  | tup h ha => exact ⟨_, _, _, rfl, h, ha⟩
theorem Dn.tupW_inv {v : V} {ds : List D} (h : Dn K F v (.tupW ds)) : ∃ a xs, v = .ref a ∧ SqT K F a xs ∧ DnA K F xs ds := by
  cases h with
  | tupW h ha => exact ⟨_, _, rfl, SqT.of h, ha⟩
theorem Dn.dict_inv {v : V} {t : Bool} {ks vs : List D} (h : Dn K F v (.dict t ks vs)) : ∃ a o xs, v = .ref a ∧ F a = some o ∧ DcO t o ks xs ∧ DnA K F xs vs := by
  cases h with
  | dic h hk ha => exact ⟨_, _, _, rfl, h, hk, ha⟩
theorem Dn.int_inv {v : V} {i : Int} (h : Dn K F v (.int i)) : v = .int i := by cases h; rfl
theorem Dn.bool_inv {v : V} {i : Bool} (h : Dn K F v (.bool i)) : v = .bl i := by cases h; rfl
theorem Dn.str_inv {v : V} {i : Str} (h : Dn K F v (.str i)) : v = .str i := by cases h; rfl
theorem Dn.none_inv {v : V} (h : Dn K F v .none) : v = .non := by cases h; rfl
theorem DnA.ints : ∀ {vs : List V} {is : List Int}, DnA K F vs (is.map .int) → vs = is.map .int
  | _, [], h => by cases h; rfl
  | _, i :: is, h => by
    cases h with
    | cons h ha =>
      rw [h.int_inv, DnA.ints ha]
      rfl
theorem DnA.strs : ∀ {vs : List V} {is : List Str}, DnA K F vs (is.map .str) → vs = is.map .str
  | _, [], h => by cases h; rfl
  | _, i :: is, h => by
    cases h with
    | cons h ha =>
      rw [h.str_inv, DnA.strs ha]
      rfl
theorem DnA.bools : ∀ {vs : List V} {is : List Bool}, DnA K F vs (is.map .bool) → vs = is.map .bl
  | _, [], h => by cases h; rfl
  | _, i :: is, h => by
    cases h with
    | cons h ha =>
      rw [h.bool_inv, DnA.bools ha]
      rfl
theorem dnA_ints : ∀ is : List Int, DnA K F (is.map .int) (is.map .int)
  | [] => .nil
  | i :: is => .cons (.int i) (dnA_ints is)
theorem dnA_strs : ∀ is : List Str, DnA K F (is.map .str) (is.map .str)
  | [] => .nil
  | i :: is => .cons (.str i) (dnA_strs is)
theorem dnA_bools : ∀ is : List Bool, DnA K F (is.map .bl) (is.map .bool)
  | [] => .nil
  | i :: is => .cons (.bl i) (dnA_bools is)
end

/-! ### the heap goes on -/
structure Go (F H F' H' : Hp) (ms : Addr → Prop) : Prop where
  ff : Ex F F'
  hh : ∀ b o, H b = some o → ¬ ms b → H' b = some o
  fh : Ex F' H'
  st : ∀ b, F b = none → (H b).isSome = true → F' b = none ∧ (H' b).isSome = true
abbrev noA : Addr → Prop := fun _ => False
section
variable {F H F1 H1 F2 H2 : Hp} {ms ms' : Addr → Prop} {a : Addr} {o : HO}
theorem Go.refl (e : Ex F H) : Go F H F H ms := ⟨Evl.Ex.refl _, fun _ _ h _ => h, e, fun _ h1 h2 => ⟨h1, h2⟩⟩
theorem Go.trans (x : Go F H F1 H1 ms) (y : Go F1 H1 F2 H2 ms) : Go F H F2 H2 ms :=
  ⟨x.ff.trans y.ff, fun b o h n => y.hh b o (x.hh b o h n) n, y.fh, fun b h1 h2 => let ⟨p, q⟩ := x.st b h1 h2; y.st b p q⟩
theorem Go.mono (x : Go F H F1 H1 ms) (h : ∀ b, ms b → ms' b) : Go F H F1 H1 ms' := ⟨x.ff, fun b o e n => x.hh b o e fun z => n (h b z), x.fh, x.st⟩
theorem Go.any (x : Go F H F1 H1 noA) : Go F H F1 H1 ms := x.mono fun _ z => z.elim
/-- what was there, frozen or not, is there -/
theorem Go.some' (x : Go F H F1 H1 ms) (e : Ex F H) {b : Addr} (h : (H b).isSome = true) : (H1 b).isSome = true := by
  cases q : F b with
  | none => exact (x.st b q h).2
  | some u => rw [x.fh b u (x.ff b u q)]; rfl
theorem Go.old (x : Go F H F1 H1 ms) (e : Ex F H) {b : Addr} (h : H1 b = none) : H b = none := by
  cases q : H b with
  | none => rfl
  | some u =>
    have := x.some' e (b := b) (by rw [q]; rfl)
    rw [h] at this
    cases this
theorem ex_none {F H : Hp} (e : Ex F H) {b : Addr} (h : H b = none) : F b = none := by
  cases q : F b with
  | none => rfl
  | some u => rw [e b u q] at h; cases h
/-- a new object, frozen at once -/
theorem Go.newF (e : Ex F H) (h : H a = none) : Go F H (upd F a o) (upd H a o) ms := by
  refine ⟨Evl.Ex.new (ex_none e h), fun b u q _ => ?_, fun b u q => ?_, fun b h1 h2 => ?_⟩
  · rw [upd_ne (ne_of_none q h)]; exact q
  · by_cases hb : b = a
    · subst hb; rw [upd_same] at q ⊢; exact q
    · rw [upd_ne hb] at q ⊢; exact e b u q
  · have hb : b ≠ a := fun z => by subst z; rw [h] at h2; cases h2
    rw [upd_ne hb, upd_ne hb]
    exact ⟨h1, h2⟩
/-- a new object of its own -/
theorem Go.newO (e : Ex F H) (h : H a = none) : Go F H F (upd H a o) ms := by
  refine ⟨Evl.Ex.refl _, fun b u q _ => ?_, fun b u q => ?_, fun b h1 h2 => ?_⟩
  · rw [upd_ne (ne_of_none q h)]; exact q
  · rw [upd_ne (ne_of_none q (ex_none e h))]; exact e b u q
  · have hb : b ≠ a := fun z => by subst z; rw [h] at h2; cases h2
    rw [upd_ne hb]
    exact ⟨h1, h2⟩
/-- a new object of its own is frozen -/
theorem Go.frz (x : Go F H F1 H1 ms) (h : H a = none) (h1 : F1 a = none) (h2 : H1 a = some o) : Go F H (upd F1 a o) H1 ms := by
  refine ⟨x.ff.trans (Evl.Ex.new h1), x.hh, fun b u q => ?_, fun b p q => ?_⟩
  · by_cases hb : b = a
    · subst hb; rw [upd_same] at q; cases q; exact h2
    · rw [upd_ne hb] at q; exact x.fh b u q
  · have hb : b ≠ a := fun z => by subst z; rw [h] at q; cases q
    rw [upd_ne hb]
    exact x.st b p q
/-- an object that is not frozen is written -/
theorem Go.wr (e : Ex F H) (h : F a = none) (hm : ms a) (hs : (H a).isSome = true) : Go F H F (upd H a o) ms := by
  refine ⟨Evl.Ex.refl _, fun b u q n => ?_, fun b u q => ?_, fun b h1 h2 => ?_⟩
  · have hb : b ≠ a := fun z => by subst z; exact n hm
    rw [upd_ne hb]; exact q
  · rw [upd_ne (ne_of_none q h)]; exact e b u q
  · by_cases hb : b = a
    · subst hb; rw [upd_same]; exact ⟨h1, rfl⟩
    · rw [upd_ne hb]; exact ⟨h1, h2⟩
end

/-! ### the state -/
/-- the object of a cell, its members -/
def CeO (o : HO) : Ce → List V → Prop
  | .f _, _ => False
  | .l _ _, xs => o = .lst xs
  | .k _ t ks _, xs => DcO t o ks xs
/-- the entry: what was frozen, what was there, which slots hold what was handed in to be changed -/
structure Bs where
  F : Hp
  H : Hp
  io : List (Nat × Addr)
def Bs.ms (G : Bs) : Addr → Prop := fun a => ∃ i, (i, a) ∈ G.io
def At (K : PySem.W.Frag) (G : Bs) (F H : Hp) (i : Nat) (c : Ce) (v : V) : Prop :=
  (∃ d, c = .f d ∧ Dn K F v d) ∨
    ∃ a o xs, v = .ref a ∧ F a = none ∧ H a = some o ∧ CeO o c xs ∧ DnA K F xs c.mem ∧ (c.io = true → (i, a) ∈ G.io) ∧ (c.io = false → G.H a = none)
/-- the addresses of one's own objects -/
def Lv (σ : L2.St) (e : En) : Addr → Prop := fun a => ∃ (i : Nat) (c : Ce), e[i]? = some (some c) ∧ c.ow = true ∧ σ[i]? = some (some (V.ref a))
structure R (K : PySem.W.Frag) (G : Bs) (F H : Hp) (σ : L2.St) (e : En) : Prop where
  go : Go G.F G.H F H G.ms
  ba : Ex G.F G.H
  at_ : ∀ (i : Nat) (c : Ce), e[i]? = some (some c) → ∃ v, σ[i]? = some (some v) ∧ At K G F H i c v
  sep : ∀ (i j : Nat) (c c' : Ce) (a : Addr), i ≠ j → e[i]? = some (some c) → e[j]? = some (some c') → c.ow = true → c'.ow = true → σ[i]? = some (some (V.ref a)) → σ[j]? ≠ some (some (V.ref a))
  io : ∀ p ∈ G.io, σ[p.1]? = some (some (V.ref p.2)) ∧ ∃ c : Ce, e[p.1]? = some (some c) ∧ c.io = true
  len : e.length = σ.length
structure Nx (K : PySem.W.Frag) (G : Bs) (σ : L2.St) (F H : Hp) (e : En) (F' H' : Hp) (e' : En) : Prop where
  r : R K G F' H' σ e'
  go : Go F H F' H' (Lv σ e)
  sh : e'.map (Option.map Ce.kd) = e.map (Option.map Ce.kd)
section
variable {K : PySem.W.Frag} {G : Bs} {F H F1 H1 F2 H2 : Hp} {σ : L2.St} {e e1 e2 : En} {v : V} {d : D} {c : Ce} {i : Nat} {a : Addr}
theorem R.fh (r : R K G F H σ e) : Ex F H := r.go.fh
theorem CeO.ow {o : HO} {xs : List V} (h : CeO o c xs) : c.ow = true := by
  cases c with
  | f d => exact h.elim
  | l p ds => rfl
  | k p t ks vs => rfl
theorem At.fz (h : At K G F H i (.f d) v) : Dn K F v d := by
  rcases h with ⟨d', e, h⟩ | ⟨a, o, xs, _, _, _, h, _⟩
  · cases e; exact h
  · exact h.elim
theorem At.own (h : At K G F H i c v) (hc : c.ow = true) : ∃ a o xs, v = .ref a ∧ F a = none ∧ H a = some o ∧ CeO o c xs ∧ DnA K F xs c.mem ∧ (c.io = true → (i, a) ∈ G.io) ∧ (c.io = false → G.H a = none) := by
  rcases h with ⟨d, e, h⟩ | h
  · subst e; cases hc
  · exact h
theorem kd_ow {c c' : Ce} (h : c.kd = c'.kd) : c.ow = c'.ow ∧ c.io = c'.io := by
  cases c with
  | f d => cases c' with
    | f d' => exact ⟨rfl, rfl⟩
    | l p ds => cases p <;> cases h
    | k p t ks vs => cases p <;> cases t <;> cases h
  | l p ds => cases c' with
    | f d' => cases p <;> cases h
    | l p' ds => cases p <;> cases p' <;> first | exact ⟨rfl, rfl⟩ | cases h
    | k p' t ks vs => cases p <;> cases p' <;> cases t <;> cases h
  | k p t ks vs => cases c' with
    | f d' => cases p <;> cases t <;> cases h
    | l p' ds => cases p <;> cases p' <;> cases t <;> cases h
    | k p' t' ks vs => cases p <;> cases p' <;> cases t <;> cases t' <;> first | exact ⟨rfl, rfl⟩ | cases h
theorem sh_at (h : e1.map (Option.map Ce.kd) = e.map (Option.map Ce.kd)) (hc : e[i]? = some (some c)) : ∃ c' : Ce, e1[i]? = some (some c') ∧ c'.kd = c.kd := by
  have h1 : (e1.map (Option.map Ce.kd))[i]? = (e.map (Option.map Ce.kd))[i]? := by rw [h]
  rw [List.getElem?_map, List.getElem?_map, hc] at h1
  cases q : e1[i]? with
  | none => rw [q] at h1; cases h1
  | some o =>
    rw [q] at h1
    cases o with
    | none => cases h1
    | some c' => exact ⟨c', rfl, by simpa using h1⟩
theorem sh_lv (h : e1.map (Option.map Ce.kd) = e.map (Option.map Ce.kd)) {b : Addr} (hb : Lv σ e1 b) : Lv σ e b := by
  obtain ⟨i, c, h1, h2, h3⟩ := hb
  obtain ⟨c', h4, h5⟩ := sh_at h.symm h1
  exact ⟨i, c', h4, by rw [(kd_ow h5).1]; exact h2, h3⟩
theorem Nx.refl (r : R K G F H σ e) : Nx K G σ F H e F H e := ⟨r, Go.refl r.fh, rfl⟩
theorem Nx.trans (x : Nx K G σ F H e F1 H1 e1) (y : Nx K G σ F1 H1 e1 F2 H2 e2) : Nx K G σ F H e F2 H2 e2 :=
  ⟨y.r, x.go.trans (y.go.mono fun _ hb => sh_lv x.sh hb), y.sh.trans x.sh⟩
theorem Nx.dn (x : Nx K G σ F H e F1 H1 e1) (h : Dn K F v d) : Dn K F1 v d := h.mono x.go.ff
/-- of one's own, so there -/
theorem R.lv (r : R K G F H σ e) {b : Addr} (h : Lv σ e b) : F b = none ∧ (H b).isSome = true := by
  obtain ⟨i, c, h1, h2, h3⟩ := h
  obtain ⟨v, h4, h5⟩ := r.at_ i c h1
  obtain ⟨a, o, xs, rfl, h6, h7, _⟩ := h5.own h2
  rw [h3] at h4
  cases h4
  exact ⟨h6, by rw [h7]; rfl⟩
theorem At.step (h : At K G F H i c v) (go : Go F H F1 H1 noA) : At K G F1 H1 i c v := by
  rcases h with ⟨d, e, h⟩ | ⟨a, o, xs, h1, h2, h3, h4, h5, h6, h7⟩
  · exact .inl ⟨d, e, h.mono go.ff⟩
  · refine .inr ⟨a, o, xs, h1, (go.st a h2 (by rw [h3]; rfl)).1, go.hh a o h3 (fun z => z), h4, h5.mono go.ff, h6, h7⟩
/-- nothing of one's own is changed -/
theorem R.step (r : R K G F H σ e) (go : Go F H F1 H1 noA) : Nx K G σ F H e F1 H1 e :=
  ⟨⟨r.go.trans go.any, r.ba, fun i c h => let ⟨v, h1, h2⟩ := r.at_ i c h; ⟨v, h1, h2.step go⟩, r.sep, r.io, r.len⟩, go.any, rfl⟩
/-- new since H, so of no slot, and not of the entry -/
theorem R.new (r : R K G F H σ e) (h : H a = none) : ¬ Lv σ e a ∧ G.H a = none ∧ G.F a = none ∧ F a = none := by
  have g : G.H a = none := r.go.old r.ba h
  exact ⟨fun z => (by have := (r.lv z).2; rw [h] at this; cases this), g, ex_none r.ba g, ex_none r.fh h⟩
end

/-! ### values that come -/
/-- new or frozen: c is v, come since H -/
def NAt (K : PySem.W.Frag) (H F' H' : Hp) (c : Ce) (v : V) : Prop :=
  (∃ d, c = .f d ∧ Dn K F' v d) ∨ (c.io = false ∧ ∃ a o xs, v = .ref a ∧ H a = none ∧ F' a = none ∧ H' a = some o ∧ CeO o c xs ∧ DnA K F' xs c.mem)
/-- a handle: a value (frozen, or new), or what stands in a slot when it is looked at -/
inductive Hd where
  | v (c : Ce) | s (i : Nat)
def HAt (K : PySem.W.Frag) (G : Bs) (σ : L2.St) (F H : Hp) (e : En) : Hd → V → Prop
  | .v c, v => (∃ d, c = .f d ∧ Dn K F v d) ∨ (c.io = false ∧ ∃ a o xs, v = .ref a ∧ G.H a = none ∧ F a = none ∧ H a = some o ∧ ¬ Lv σ e a ∧ CeO o c xs ∧ DnA K F xs c.mem)
  | .s i, v => σ[i]? = some (some v) ∧ ∃ c : Ce, e[i]? = some (some c)
def Hd.get (h : Hd) (e : En) : Rs D := match h with
  | .v c => .ok c.d
  | .s i => match e[i]? with
    | some (some c) => .ok c.d
    | _ => .no
/-- v looks like d just now -/
def Vw (K : PySem.W.Frag) (F H : Hp) (d : D) (v : V) : Prop :=
  Dn K F v d ∨ ∃ a o xs c, v = .ref a ∧ H a = some o ∧ CeO o c xs ∧ DnA K F xs c.mem ∧ d = c.d
section
variable {K : PySem.W.Frag} {G : Bs} {F H F1 H1 F2 H2 : Hp} {σ : L2.St} {e e1 e2 : En} {v : V} {d : D} {c : Ce} {i : Nat} {a : Addr} {h : Hd}
theorem NAt.fz (x : NAt K H F1 H1 (.f d) v) : Dn K F1 v d := by
  rcases x with ⟨d', e, h⟩ | ⟨_, a, o, xs, _, _, _, _, h, _⟩
  · cases e; exact h
  · exact h.elim
theorem NAt.hat (x : NAt K H F1 H1 c v) (r : R K G F H σ e) (n : Nx K G σ F H e F1 H1 e1) : HAt K G σ F1 H1 e1 (.v c) v := by
  rcases x with ⟨d, rfl, h⟩ | ⟨hio, a, o, xs, rfl, h1, h2, h3, h4, h5⟩
  · exact .inl ⟨d, rfl, h⟩
  · obtain ⟨p, q, _⟩ := r.new h1
    exact .inr ⟨hio, a, o, xs, rfl, q, h2, h3, fun z => p (sh_lv n.sh z), h4, h5⟩
theorem HAt.nx (x : HAt K G σ F H e h v) (n : Nx K G σ F H e F1 H1 e1) : HAt K G σ F1 H1 e1 h v := by
  cases h with
  | v c =>
    rcases x with ⟨d, rfl, h⟩ | ⟨hio, a, o, xs, rfl, h1, h2, h3, h3b, h4, h5⟩
    · exact .inl ⟨d, rfl, n.dn h⟩
    · refine .inr ⟨hio, a, o, xs, rfl, h1, (n.go.st a h2 (by rw [h3]; rfl)).1, n.go.hh a o h3 h3b, fun z => h3b (sh_lv n.sh z), h4, h5.mono n.go.ff⟩
  | s i =>
    obtain ⟨h1, c, h2⟩ := x
    obtain ⟨c', h3, _⟩ := sh_at n.sh h2
    exact ⟨h1, c', h3⟩
theorem HAt.vw (x : HAt K G σ F H e h v) (r : R K G F H σ e) (g : h.get e = .ok d) : Vw K F H d v := by
  cases h with
  | v c =>
    have gd : c.d = d := Rs.ok.inj g
    rcases x with ⟨d', rfl, h⟩ | ⟨hio, a, o, xs, rfl, h1, h2, h3, h3b, h4, h5⟩
    · subst gd; exact .inl h
    · exact .inr ⟨a, o, xs, c, rfl, h3, h4, h5, gd.symm⟩
  | s i =>
    obtain ⟨h1, c, h2⟩ := x
    have gd : c.d = d := by
      simp only [Hd.get, h2] at g
      exact Rs.ok.inj g
    obtain ⟨v', h3, h4⟩ := r.at_ i c h2
    rw [h1] at h3
    cases h3
    rcases h4 with ⟨d', rfl, h⟩ | ⟨a, o, xs, rfl, h5, h6, h7, h8, _⟩
    · subst gd; exact .inl h
    · exact .inr ⟨a, o, xs, c, rfl, h6, h7, h8, gd.symm⟩
theorem Vw.int {i : Int} (x : Vw K F H (.int i) v) : v = .int i := by
  rcases x with h | ⟨a, o, xs, c, rfl, _, h, _, e⟩
  · exact h.int_inv
  · cases c <;> first | exact h.elim | cases e
theorem Vw.bool {i : Bool} (x : Vw K F H (.bool i) v) : v = .bl i := by
  rcases x with h | ⟨a, o, xs, c, rfl, _, h, _, e⟩
  · exact h.bool_inv
  · cases c <;> first | exact h.elim | cases e
theorem Vw.str {i : Str} (x : Vw K F H (.str i) v) : v = .str i := by
  rcases x with h | ⟨a, o, xs, c, rfl, _, h, _, e⟩
  · exact h.str_inv
  · cases c <;> first | exact h.elim | cases e
theorem Vw.none (x : Vw K F H .none v) : v = .non := by
  rcases x with h | ⟨a, o, xs, c, rfl, _, h, _, e⟩
  · exact h.none_inv
  · cases c <;> first | exact h.elim | cases e
theorem Vw.list {ds : List D} (x : Vw K F H (.list ds) v) (fh : Ex F H) : ∃ a xs, v = .ref a ∧ H a = some (.lst xs) ∧ DnA K F xs ds := by
  rcases x with h | ⟨a, o, xs, c, rfl, h1, h, h2, e⟩
  · obtain ⟨a, xs, e1, h1, h2⟩ := h.list_inv
    exact ⟨a, xs, e1, fh _ _ h1, h2⟩
  · cases c with
    | f d => exact h.elim
    | l p ds' =>
      cases e
      have h' : o = .lst xs := h
      subst h'
      exact ⟨a, xs, rfl, h1, h2⟩
    | k p t ks vs => cases e
theorem Vw.ro {ds : List D} (x : Vw K F H (.ro ds) v) (fh : Ex F H) : ∃ a xs, v = .ref a ∧ SqL K H a xs ∧ DnA K F xs ds := by
  rcases x with h | ⟨a, o, xs, c, rfl, h1, h, h2, e⟩
  · obtain ⟨a, xs, e1, h1, h2⟩ := h.ro_inv
    exact ⟨a, xs, e1, Evl.ex_l fh h1, h2⟩
  · cases c <;> first | exact h.elim | cases e
theorem Vw.tuple {ds : List D} (x : Vw K F H (.tuple ds) v) (fh : Ex F H) : ∃ a xs, v = .ref a ∧ SqT K H a xs ∧ DnA K F xs ds ∧ Dn K F v (.tuple ds) := by
  rcases x with h | ⟨a, o, xs, c, rfl, h1, h, h2, e⟩
  · obtain ⟨a, xs, e1, h1, h2⟩ := h.tuple_inv
    exact ⟨a, xs, e1, Evl.ex_t fh h1, h2, h⟩
  · cases c <;> first | exact h.elim | cases e
theorem Vw.dict {t : Bool} {ks vs : List D} (x : Vw K F H (.dict t ks vs) v) (fh : Ex F H) : ∃ a o xs, v = .ref a ∧ H a = some o ∧ DcO t o ks xs ∧ DnA K F xs vs := by
  rcases x with h | ⟨a, o, xs, c, rfl, h1, h, h2, e⟩
  · obtain ⟨a, o, xs, e1, h1, h2, h3⟩ := h.dict_inv
    exact ⟨a, o, xs, e1, fh _ _ h1, h2, h3⟩
  · cases c with
    | f d => exact h.elim
    | l p ds' => cases e
    | k p t' ks' vs' =>
      cases e
      exact ⟨a, o, xs, rfl, h1, h, h2⟩
/-- data that is a mere value is itself -/
def D.flat : D → Bool
  | .none => true | .bool _ => true | .int _ => true | .str _ => true | _ => false
end
end DL

namespace DL
open PySem L2

/-! ### weaker readings -/
section
variable {X : Cx} {e : Expr} {es : List Expr}
theorem PEimp {t t' : TE} (h : PE X e t) (hi : ∀ σ H Q, t' σ H Q → t σ H Q) : PE X e t' := ⟨fun pins s σ H Q I q => h.run pins s σ H Q I (hi σ H Q q)⟩
theorem PTimp {t t' : TT} (h : PT X e t) (hi : ∀ σ H Q, t' σ H Q → t σ H Q) : PT X e t' := ⟨fun pins s σ H Q I q => h.run pins s σ H Q I (hi σ H Q q)⟩
theorem PWimp {t t' : TT} (h : PW X e t) (hi : ∀ σ H Q, t' σ H Q → t σ H Q) : PW X e t' := ⟨fun wh pins s σ H Q I q => h.run wh pins s σ H Q I (hi σ H Q q)⟩
theorem PAimp {t t' : TA} (h : PA X es t) (hi : ∀ σ H Q, t' σ H Q → t σ H Q) : PA X es t' := ⟨fun pos pins s σ H Q I q => h.run pos pins s σ H Q I (hi σ H Q q)⟩
end

/-! ### meanings -/
section
variable (K : PySem.W.Frag)
def tF (m : M D) : TE := fun σ H Q => ∃ G F e d e', R K G F H σ e ∧ m e = .ok (d, e') ∧ ∀ v F' H', Nx K G σ F H e F' H' e' → Dn K F' v d → Q v H'
def tN (m : M Ce) : TE := fun σ H Q => ∃ G F e c e', R K G F H σ e ∧ m e = .ok (c, e') ∧ ∀ v F' H', Nx K G σ F H e F' H' e' → NAt K H F' H' c v → Q v H'
def tH (m : M Hd) : TE := fun σ H Q => ∃ G F e c e', R K G F H σ e ∧ m e = .ok (c, e') ∧ ∀ v F' H', Nx K G σ F H e F' H' e' → HAt K G σ F' H' e' c v → Q v H'
def tT (m : M Bool) : TT := fun σ H Q => ∃ G F e b e', R K G F H σ e ∧ m e = .ok (b, e') ∧ ∀ F' H', Nx K G σ F H e F' H' e' → Q b H'
def tA (m : M (List D)) : TA := fun σ H Q => ∃ G F e ds e', R K G F H σ e ∧ m e = .ok (ds, e') ∧ ∀ vs F' H', Nx K G σ F H e F' H' e' → DnA K F' vs ds → Q vs H'
inductive HAs (G : Bs) (σ : L2.St) (F H : Hp) (e : En) : List Hd → List V → Prop where
  | nil : HAs G σ F H e [] []
  | cons {h : Hd} {hs : List Hd} {v : V} {vs : List V} : HAt K G σ F H e h v → HAs G σ F H e hs vs → HAs G σ F H e (h :: hs) (v :: vs)
def tHA (m : M (List Hd)) : TA := fun σ H Q => ∃ G F e ds e', R K G F H σ e ∧ m e = .ok (ds, e') ∧ ∀ vs F' H', Nx K G σ F H e F' H' e' → HAs K G σ F' H' e' ds vs → Q vs H'
end
abbrev PF (X : Cx) (e : Expr) (m : M D) : Prop := PE X e (tF X.K m)
abbrev PN (X : Cx) (e : Expr) (m : M Ce) : Prop := PE X e (tN X.K m)
abbrev PH (X : Cx) (e : Expr) (m : M Hd) : Prop := PE X e (tH X.K m)
abbrev PTd (X : Cx) (e : Expr) (m : M Bool) : Prop := PT X e (tT X.K m)
abbrev PWd (X : Cx) (e : Expr) (m : M Bool) : Prop := PW X e (tT X.K m)
abbrev PAd (X : Cx) (es : List Expr) (m : M (List D)) : Prop := PA X es (tA X.K m)
abbrev PAh (X : Cx) (es : List Expr) (m : M (List Hd)) : Prop := PA X es (tHA X.K m)

section
variable {X : Cx} {ex ey ez : Expr} {es : List Expr} {pos : Pos} {K : PySem.W.Frag}
variable {G : Bs} {F H F1 H1 F2 H2 : Hp} {σ : L2.St} {e e1 e2 : En} {v : V} {d : D} {c : Ce} {a : Addr}
theorem NAt.back (n : NAt K H1 F2 H2 c v) (go : Go F H F1 H1 (Lv σ e)) (fh : Ex F H) : NAt K H F2 H2 c v := by
  rcases n with ⟨d, rfl, h⟩ | ⟨hio, a, o, xs, rfl, h1, h2⟩
  · exact .inl ⟨d, rfl, h⟩
  · exact .inr ⟨hio, a, o, xs, rfl, go.old fh h1, h2⟩
theorem R.frz {o : HO} (r : R K G F H σ e) (h1 : F a = none) (h2 : H a = some o) (h3 : ¬ Lv σ e a) (h4 : G.H a = none) : R K G (upd F a o) H σ e := by
  refine ⟨r.go.frz h4 h1 h2, r.ba, fun i c h => ?_, r.sep, r.io, r.len⟩
  obtain ⟨v, e1, e2⟩ := r.at_ i c h
  refine ⟨v, e1, ?_⟩
  rcases e2 with ⟨d, rfl, hd⟩ | ⟨b, u, xs, rfl, q1, q2, q3, q4, q5, q6⟩
  · exact .inl ⟨d, rfl, hd.mono (Evl.Ex.new h1)⟩
  · have hb : b ≠ a := fun z => by
      subst z
      exact h3 ⟨i, c, h, q3.ow, e1⟩
    exact .inr ⟨b, u, xs, rfl, by rw [upd_ne hb]; exact q1, q2, q3, q4.mono (Evl.Ex.new h1), q5, q6⟩
/-- what is new is frozen -/
theorem NAt.frz (n : NAt K H F1 H1 c v) (r : R K G F H σ e) (x : Nx K G σ F H e F1 H1 e1) : ∃ F2, Nx K G σ F H e F2 H1 e1 ∧ Ex F1 F2 ∧ Dn K F2 v c.d := by
  rcases n with ⟨d, rfl, h⟩ | ⟨hio, a, o, xs, rfl, h1, h2, h3, h4, h5⟩
  · exact ⟨F1, x, Evl.Ex.refl _, h⟩
  · obtain ⟨p, q, _⟩ := r.new h1
    refine ⟨upd F1 a o, ⟨x.r.frz h2 h3 (fun z => p (sh_lv x.sh z)) q, x.go.frz h1 h2 h3, x.sh⟩, Evl.Ex.new h2, ?_⟩
    cases c with
    | f d => exact h4.elim
    | l p ds =>
      have h4' : o = .lst xs := h4
      subst h4'
      exact .lst upd_same (h5.mono (Evl.Ex.new h2))
    | k p t ks vs => exact .dic upd_same h4 (h5.mono (Evl.Ex.new h2))

/-! ### from one reading to another -/
def mN (m : M D) : M Ce := fun e => (m e).bind fun p => .ok (.f p.1, p.2)
def mZ (m : M Ce) : M D := fun e => (m e).bind fun p => .ok (p.1.d, p.2)
def mH (m : M Ce) : M Hd := fun e => (m e).bind fun p => .ok (.v p.1, p.2)
theorem bind_ok2 {α β : Type} {m : M α} {f : α × En → Rs β} {e : En} {b : β} (h : (m e).bind f = .ok b) : ∃ a e1, m e = .ok (a, e1) ∧ f (a, e1) = .ok b := by
  obtain ⟨⟨a, e1⟩, h1, h2⟩ := Rs.bind_eq h
  exact ⟨a, e1, h1, h2⟩
theorem pn_f {m : M D} (h : PF X ex m) : PN X ex (mN m) := PEimp h fun σ H Q ⟨G, F, e, c, e', r, hm, q⟩ => by
  obtain ⟨d, e1, h1, h2⟩ := bind_ok2 hm
  cases h2
  exact ⟨G, F, e, d, e1, r, h1, fun v F' H' n hd => q v F' H' n (.inl ⟨d, rfl, hd⟩)⟩
theorem pf_n {m : M Ce} (h : PN X ex m) : PF X ex (mZ m) := PEimp h fun σ H Q ⟨G, F, e, d, e', r, hm, q⟩ => by
  obtain ⟨c, e1, h1, h2⟩ := bind_ok2 hm
  cases h2
  refine ⟨G, F, e, c, e1, r, h1, fun v F' H' n hn => ?_⟩
  obtain ⟨F2, n2, _, hd⟩ := hn.frz r n
  exact q v F2 H' n2 hd
theorem ph_n {m : M Ce} (h : PN X ex m) : PH X ex (mH m) := PEimp h fun σ H Q ⟨G, F, e, d, e', r, hm, q⟩ => by
  obtain ⟨c, e1, h1, h2⟩ := bind_ok2 hm
  cases h2
  exact ⟨G, F, e, c, e1, r, h1, fun v F' H' n hn => q v F' H' n (hn.hat r n)⟩
theorem ph_f {m : M D} (h : PF X ex m) : PH X ex (mH (mN m)) := ph_n (pn_f h)

/-! ### names and constants -/
def mVar (i : Nat) : M D := fun e => match e[i]? with
  | some (some (.f d)) => .ok (d, e)
  | _ => .no
def mSl (i : Nat) : M Hd := fun e => match e[i]? with
  | some (some _) => .ok (.s i, e)
  | _ => .no
theorem mVar_ok {i : Nat} {e e' : En} {d : D} (h : mVar i e = .ok (d, e')) : e[i]? = some (some (.f d)) ∧ e' = e := by
  unfold mVar at h
  split at h
  · rename_i d' q
    cases h
    exact ⟨q, rfl⟩
  · cases h
theorem mSl_ok {i : Nat} {e e' : En} {h' : Hd} (h : mSl i e = .ok (h', e')) : (∃ c, e[i]? = some (some c)) ∧ h' = .s i ∧ e' = e := by
  unfold mSl at h
  split at h
  · rename_i d' q
    cases h
    exact ⟨⟨_, q⟩, rfl, rfl⟩
  · cases h
theorem pf_var {i : Nat} (h : PE X ex (tVar i)) : PF X ex (mVar i) := PEimp h fun σ H Q ⟨G, F, e, d, e', r, hm, q⟩ => by
  obtain ⟨h1, rfl⟩ := mVar_ok hm
  obtain ⟨v, h2, h3⟩ := r.at_ i _ h1
  exact ⟨v, h2, q v F H (Nx.refl r) h3.fz⟩
theorem ph_var {i : Nat} (h : PE X ex (tVar i)) : PH X ex (mSl i) := PEimp h fun σ H Q ⟨G, F, e, d, e', r, hm, q⟩ => by
  obtain ⟨⟨c, h1⟩, rfl, rfl⟩ := mSl_ok hm
  obtain ⟨v, h2, h3⟩ := r.at_ i _ h1
  exact ⟨v, h2, q v F H (Nx.refl r) ⟨h2, c, h1⟩⟩
/-- a constant -/
def mC (d : D) : M D := fun e => .ok (d, e)
@[simp] theorem mC_ap (d : D) (e : En) : mC d e = .ok (d, e) := Eq.trans rfl rfl
theorem pf_c {v : V} {d : D} (h : PE X ex (tC v)) (hd : ∀ F, Dn X.K F v d) : PF X ex (mC d) := PEimp h fun σ H Q ⟨G, F, e, d', e', r, hm, q⟩ => by
  cases hm
  exact q v F H (Nx.refl r) (hd F)
theorem pf_int {i : Int} {j : Nat} : PF X (.Constant (.int i) j pos) (mC (.int i)) := pf_c pe_int fun _ => .int i
theorem pf_bl {b : Bool} {j : Nat} : PF X (.Constant (.bool b) j pos) (mC (.bool b)) := pf_c pe_bl fun _ => .bl b
theorem pf_non {j : Nat} : PF X (.Constant .none j pos) (mC .none) := pf_c pe_non fun _ => .non
theorem pf_str {x : Str} {j : Nat} : PF X (.Constant (.str x) j pos) (mC (.str x)) := pf_c pe_str fun _ => .str x

/-! ### operations on values -/
/-- the operation r on two values does what g says of data -/
def Snd2 (K : PySem.W.Frag) (r : R2) (g : D → D → Rs Ce) : Prop := ∀ (F H : Hp) (x y : V) (dx dy : D) (c : Ce) (Q : VK), Ex F H → Vw K F H dx x → Vw K F H dy y → g dx dy = .ok c →
  (∀ v F' H', Go F H F' H' noA → NAt K H F' H' c v → Q v H') → r x y H Q
def Snd1 (K : PySem.W.Frag) (r : V → Hp → VK → Prop) (g : D → Rs Ce) : Prop := ∀ (F H : Hp) (x : V) (dx : D) (c : Ce) (Q : VK), Ex F H → Vw K F H dx x → g dx = .ok c →
  (∀ v F' H', Go F H F' H' noA → NAt K H F' H' c v → Q v H') → r x H Q
inductive VwA (K : PySem.W.Frag) (F H : Hp) : List D → List V → Prop where
  | nil : VwA K F H [] []
  | cons {d : D} {ds : List D} {v : V} {vs : List V} : Vw K F H d v → VwA K F H ds vs → VwA K F H (d :: ds) (v :: vs)
def SndL (K : PySem.W.Frag) (r : List V → Hp → VK → Prop) (g : List D → Rs Ce) : Prop := ∀ (F H : Hp) (xs : List V) (ds : List D) (c : Ce) (Q : VK), Ex F H → VwA K F H ds xs → g ds = .ok c →
  (∀ v F' H', Go F H F' H' noA → NAt K H F' H' c v → Q v H') → r xs H Q
def m2 (g : D → D → Rs Ce) (ma mb : M Hd) : M Ce := fun e => (ma e).bind fun p => (mb p.2).bind fun q => (p.1.get q.2).bind fun x => (q.1.get q.2).bind fun y => (g x y).bind fun c => .ok (c, q.2)
def m1 (g : D → Rs Ce) (ma : M Hd) : M Ce := fun e => (ma e).bind fun p => (p.1.get p.2).bind fun x => (g x).bind fun c => .ok (c, p.2)
def gets : List Hd → En → Rs (List D)
  | [], _ => .ok []
  | h :: hs, e => (h.get e).bind fun d => (gets hs e).bind fun ds => .ok (d :: ds)
def mL (g : List D → Rs Ce) (ma : M (List Hd)) : M Ce := fun e => (ma e).bind fun p => (gets p.1 p.2).bind fun xs => (g xs).bind fun c => .ok (c, p.2)
/-- the shape that all two-place rules share -/
theorem op2 {r : R2} {g : D → D → Rs Ce} (hs : Snd2 K r g) {ma mb : M Hd} {σ : L2.St} {H : Hp} {Q : VK} (h : tN K (m2 g ma mb) σ H Q) : tOp r (tH K ma) (tH K mb) σ H Q := by
  obtain ⟨G, F, e, c, e', rr, hm, q⟩ := h
  obtain ⟨x, e1, h1, hm⟩ := bind_ok2 hm
  obtain ⟨y, e2, h2, hm⟩ := bind_ok2 hm
  obtain ⟨dx, h3, hm⟩ := Rs.bind_eq hm
  obtain ⟨dy, h4, hm⟩ := Rs.bind_eq hm
  obtain ⟨c', h5, hm⟩ := Rs.bind_eq hm
  cases hm
  refine ⟨G, F, e, x, e1, rr, h1, fun vx F1 H1 n1 hx => ⟨G, F1, e1, y, e2, n1.r, h2, fun vy F2 H2 n2 hy => ?_⟩⟩
  refine hs F2 H2 vx vy dx dy c Q n2.r.fh ((hx.nx n2).vw n2.r h3) (hy.vw n2.r h4) h5 fun v F' H' go nat => ?_
  have n12 := n1.trans n2
  exact q v F' H' (n12.trans (n2.r.step go)) (nat.back n12.go rr.fh)
theorem op1 {r : V → Hp → VK → Prop} {g : D → Rs Ce} (hs : Snd1 K r g) {ma : M Hd} {σ : L2.St} {H : Hp} {Q : VK} (h : tN K (m1 g ma) σ H Q) : (tH K ma) σ H fun x H1 => r x H1 Q := by
  obtain ⟨G, F, e, c, e', rr, hm, q⟩ := h
  obtain ⟨x, e1, h1, hm⟩ := bind_ok2 hm
  obtain ⟨dx, h3, hm⟩ := Rs.bind_eq hm
  obtain ⟨c', h5, hm⟩ := Rs.bind_eq hm
  cases hm
  refine ⟨G, F, e, x, _, rr, h1, fun vx F1 H1 n1 hx => ?_⟩
  refine hs F1 H1 vx dx c Q n1.r.fh (hx.vw n1.r h3) h5 fun v F' H' go nat => ?_
  exact q v F' H' (n1.trans (n1.r.step go)) (nat.back n1.go rr.fh)
theorem HAs.vw {G : Bs} {σ : L2.St} {F H : Hp} {e : En} (r : R K G F H σ e) : ∀ {hs : List Hd} {vs : List V} {ds : List D}, HAs K G σ F H e hs vs → gets hs e = .ok ds → VwA K F H ds vs
  | _, _, _, .nil, g => by cases g; exact .nil
  | _, _, _, .cons h t, g => by
    obtain ⟨d, h1, g⟩ := Rs.bind_eq g
    obtain ⟨ds, h2, g⟩ := Rs.bind_eq g
    cases g
    exact .cons (h.vw r h1) (HAs.vw r t h2)
theorem HAs.nx {G : Bs} {σ : L2.St} {F H F1 H1 : Hp} {e e1 : En} (n : Nx K G σ F H e F1 H1 e1) : ∀ {hs : List Hd} {vs : List V}, HAs K G σ F H e hs vs → HAs K G σ F1 H1 e1 hs vs
  | _, _, .nil => .nil
  | _, _, .cons h t => .cons (h.nx n) (HAs.nx n t)
theorem opL {r : List V → Hp → VK → Prop} {g : List D → Rs Ce} (hs : SndL K r g) {ma : M (List Hd)} {σ : L2.St} {H : Hp} {Q : VK} (h : tN K (mL g ma) σ H Q) : tCB r (tHA K ma) σ H Q := by
  obtain ⟨G, F, e, c, e', rr, hm, q⟩ := h
  obtain ⟨x, e1, h1, hm⟩ := bind_ok2 hm
  obtain ⟨dx, h3, hm⟩ := Rs.bind_eq hm
  obtain ⟨c', h5, hm⟩ := Rs.bind_eq hm
  cases hm
  refine ⟨G, F, e, x, _, rr, h1, fun vx F1 H1 n1 hx => ?_⟩
  refine hs F1 H1 vx dx c Q n1.r.fh (hx.vw n1.r h3) h5 fun v F' H' go nat => ?_
  exact q v F' H' (n1.trans (n1.r.step go)) (nat.back n1.go rr.fh)

/-! ### arguments -/
def aNil {α : Type} : M (List α) := fun e => .ok ([], e)
def aCons {α : Type} (m : M α) (ms : M (List α)) : M (List α) := fun e => (m e).bind fun p => (ms p.2).bind fun q => .ok (p.1 :: q.1, q.2)
theorem pad_nil : PAd X [] aNil := PAimp pa_nil fun σ H Q ⟨G, F, e, d, e', r, hm, q⟩ => by
  cases hm
  exact q [] F H (Nx.refl r) .nil
theorem pad_cons {m : M D} {ms : M (List D)} (ha : PF X ex m) (hr : PAd X es ms) (hs : starEach (ex :: es) X.env = (false, eval ex X.env) :: starEach es X.env := by rfl) : PAd X (ex :: es) (aCons m ms) := PAimp (pa_cons ha hr hs) fun σ H Q ⟨G, F, e, d, e', r, hm, q⟩ => by
  obtain ⟨x, e1, h1, hm⟩ := bind_ok2 hm
  obtain ⟨y, e2, h2, hm⟩ := bind_ok2 hm
  cases hm
  exact ⟨G, F, e, x, e1, r, h1, fun v F1 H1 n1 hd => ⟨G, F1, e1, y, e2, n1.r, h2, fun vs F2 H2 n2 hds => q (v :: vs) F2 H2 (n1.trans n2) (.cons (n2.dn hd) hds)⟩⟩
theorem pah_nil : PAh X [] aNil := PAimp pa_nil fun σ H Q ⟨G, F, e, d, e', r, hm, q⟩ => by
  cases hm
  exact q [] F H (Nx.refl r) .nil
theorem pah_cons {m : M Hd} {ms : M (List Hd)} (ha : PH X ex m) (hr : PAh X es ms) (hs : starEach (ex :: es) X.env = (false, eval ex X.env) :: starEach es X.env := by rfl) : PAh X (ex :: es) (aCons m ms) := PAimp (pa_cons ha hr hs) fun σ H Q ⟨G, F, e, d, e', r, hm, q⟩ => by
  obtain ⟨x, e1, h1, hm⟩ := bind_ok2 hm
  obtain ⟨y, e2, h2, hm⟩ := bind_ok2 hm
  cases hm
  exact ⟨G, F, e, x, e1, r, h1, fun v F1 H1 n1 hd => ⟨G, F1, e1, y, e2, n1.r, h2, fun vs F2 H2 n2 hds => q (v :: vs) F2 H2 (n1.trans n2) (.cons (hd.nx n2) hds)⟩⟩

/-! ### the rules -/
theorem pn_op {op : Operator} {r : R2} {g : D → D → Rs Ce} {ma mb : M Hd} (ho : OpR X (binaryOp op) r) (hs : Snd2 X.K r g) (ha : PH X ex ma) (hb : PH X ey mb) : PN X (.BinOp ex op ey pos) (m2 g ma mb) := PEimp (pe_op ho ha hb) fun σ H Q h => op2 hs h
theorem pn_cmp {op : CmpOp} {r : R2} {g : D → D → Rs Ce} {ma mb : M Hd} (ho : OpR X (compareOp op) r) (hs : Snd2 X.K r g) (hm : behindInMarks op ey = false) (ha : PH X ex ma) (hb : PH X ey mb) : PN X (.Compare ex [op] [ey] pos) (m2 g ma mb) := PEimp (pe_cmpR ho ha hb hm) fun σ H Q h => op2 hs h
def mBool (m : M Ce) : M Bool := fun e => (m e).bind fun p => match p.1 with
  | .f (.bool b) => .ok (b, p.2)
  | _ => .no
theorem mBool_ok {m : M Ce} {e e' : En} {b : Bool} (h : mBool m e = .ok (b, e')) : m e = .ok (.f (.bool b), e') := by
  obtain ⟨c, e1, h1, h2⟩ := bind_ok2 h
  simp only at h2
  split at h2
  · cases h2
    exact h1
  · cases h2
theorem bool_test {m : M Ce} {σ : L2.St} {H : Hp} {Q : Bool → Hp → Prop} (h : tT K (mBool m) σ H Q) : tN K m σ H fun x H' => ∃ k, x = .bl k ∧ Q k H' := by
  obtain ⟨G, F, e, b, e', r, hm, q⟩ := h
  exact ⟨G, F, e, _, e', r, mBool_ok hm, fun v F' H' n hn => ⟨b, hn.fz.bool_inv, q F' H' n⟩⟩
theorem ptd_cmp {op : CmpOp} {r : R2} {g : D → D → Rs Ce} {ma mb : M Hd} (ho : OpR X (compareOp op) r) (hs : Snd2 X.K r g) (hm : behindInMarks op ey = false) (ha : PH X ex ma) (hb : PH X ey mb) : PTd X (.Compare ex [op] [ey] pos) (mBool (m2 g ma mb)) :=
  PTimp (pt_cmpR ho ha hb hm) fun σ H Q h => op2 hs (bool_test h)
theorem pn_un {op : UnaryOp} {r : V → Hp → VK → Prop} {g : D → Rs Ce} {ma : M Hd} (ho : UnR X (unaryOp op) r) (hs : Snd1 X.K r g) (ha : PH X ex ma) : PN X (.UnaryOp op ex pos) (m1 g ma) := PEimp (pe_un ho ha) fun σ H Q h => op1 hs h
theorem pn_ix {r : R2} {g : D → D → Rs Ce} {ma mb : M Hd} (ho : IxR X r) (hs : Snd2 X.K r g) (ha : PH X ex ma) (hb : PH X ey mb) (hp : PlainIx ey) : PN X (.Subscript ex ey pos) (m2 g ma mb) := PEimp (pe_ix ho ha hb hp) fun σ H Q h => op2 hs h
theorem pn_bi {x : Str} {p : Pos} {id : String} {r : List V → Hp → VK → Prop} {g : List D → Rs Ce} {ma : M (List Hd)} (hc : CallR X (.builtin id) r) (hs : SndL X.K r g) (hg : Gl X x) (hm : X.mg x = none) (hv : bootBuiltins x = some (.builtin id)) (ha : PAh X (ex :: es) ma)
    (hn : x ≠ "__name__" := by decide) (hdb : (x == ("__debug__" : Str)) = false := by decide) (he : starEach (ex :: es) X.env = (false, eval ex X.env) :: starEach es X.env := by rfl) (hpl : (backTo pos (starEach es X.env)).any (·.1) = false := by rfl) :
    PN X (.Call (.Name x p) (ex :: es) [] pos) (mL g ma) := PEimp (pe_callB hc hg hm hv ha hn hdb he hpl) fun σ H Q h => opL hs h
theorem pn_ty {x : Str} {p : Pos} {T : String} {r : List V → Hp → VK → Prop} {g : List D → Rs Ce} {ma : M (List Hd)} (hc : CallR X (.type T) r) (hs : SndL X.K r g) (hg : Gl X x) (hm : X.mg x = none) (hv : bootBuiltins x = some (.type T)) (ha : PAh X (ex :: es) ma)
    (hn : x ≠ "__name__" := by decide) (hdb : (x == ("__debug__" : Str)) = false := by decide) (he : starEach (ex :: es) X.env = (false, eval ex X.env) :: starEach es X.env := by rfl) (hpl : (backTo pos (starEach es X.env)).any (·.1) = false := by rfl) :
    PN X (.Call (.Name x p) (ex :: es) [] pos) (mL g ma) := PEimp (pe_callTy hc hg hm hv ha hn hdb he hpl) fun σ H Q h => opL hs h
/-- a module's name for a built-in function (from math import gcd) -/
theorem pn_fun {x : Str} {p : Pos} {id : String} {r : List V → Hp → VK → Prop} {g : List D → Rs Ce} {ma : M (List Hd)} (hc : CallR X (.builtin id) r) (hs : SndL X.K r g) (hg : Gl X x) (hm : X.mg x = some (.builtin id)) (ha : PAh X (ex :: es) ma)
    (hdb : (x == ("__debug__" : Str)) = false := by decide) (he : starEach (ex :: es) X.env = (false, eval ex X.env) :: starEach es X.env := by rfl) (hpl : (backTo pos (starEach es X.env)).any (·.1) = false := by rfl) :
    PN X (.Call (.Name x p) (ex :: es) [] pos) (mL g ma) := PEimp (pe_callBfun hc hg hm ha hdb he hpl) fun σ H Q h => opL hs h
def mTup (ma : M (List D)) : M D := fun e => (ma e).bind fun p => if p.1.length ≤ sizeLine then .ok (.tuple p.1, p.2) else .no
def mLst (ma : M (List D)) : M Ce := fun e => (ma e).bind fun p => if p.1.length ≤ sizeLine then .ok (.l false p.1, p.2) else .no
theorem ite_ok {α : Type} {c : Prop} [Decidable c] {x : Rs α} {a : α} (h : (if c then x else .no) = .ok a) : c ∧ x = .ok a := by
  by_cases hc : c
  · rw [if_pos hc] at h; exact ⟨hc, h⟩
  · rw [if_neg hc] at h; cases h
theorem pf_tup {k : Nat} {ma : M (List D)} (ha : PAd X es ma) : PF X (.Tuple es k pos) (mTup ma) := PEimp (pe_tupG ha) fun σ H Q ⟨G, F, e, d, e', r, hm, q⟩ => by
  obtain ⟨ds, e1, h1, hm⟩ := bind_ok2 hm
  obtain ⟨hz, hm⟩ := ite_ok hm
  cases hm
  refine ⟨G, F, e, ds, _, r, h1, fun vs F1 H1 n hd => ⟨by rw [hd.len]; exact hz, fun p its hp => ?_⟩⟩
  have go : Go F1 H1 (upd F1 p (.frz (gO its) (.tup vs))) (upd H1 p (.frz (gO its) (.tup vs))) noA := Go.newF n.r.fh hp
  exact q _ _ _ (n.trans (n.r.step go)) (.tup (.inl upd_same) (hd.mono go.ff))
theorem pn_lst {ma : M (List D)} (ha : PAd X es ma) : PN X (.List es pos) (mLst ma) := PEimp (pe_lst ha) fun σ H Q ⟨G, F, e, d, e', r, hm, q⟩ => by
  obtain ⟨ds, e1, h1, hm⟩ := bind_ok2 hm
  obtain ⟨hz, hm⟩ := ite_ok hm
  cases hm
  refine ⟨G, F, e, ds, _, r, h1, fun vs F1 H1 n hd => ⟨by rw [hd.len]; exact hz, fun p hp => ?_⟩⟩
  have go : Go F1 H1 F1 (upd H1 p (.lst vs)) noA := Go.newO n.r.fh hp
  exact q _ _ _ (n.trans (n.r.step go)) (.inr ⟨rfl, p, _, vs, rfl, n.go.old r.fh hp, ex_none n.r.fh hp, upd_same, rfl, hd⟩)
def mIf {α : Type} (t : M Bool) (a b : M α) : M α := fun e => (t e).bind fun p => if p.1 = true then a p.2 else b p.2
theorem pn_if {t : M Bool} {ma mb : M Ce} (ht : PTd X ez t) (ha : PN X ex ma) (hb : PN X ey mb) : PN X (.IfExp ez ex ey pos) (mIf t ma mb) := PEimp (pe_ifExp ht ha hb) fun σ H Q ⟨G, F, e, c, e', r, hm, q⟩ => by
  obtain ⟨b, e1, h1, hm⟩ := bind_ok2 hm
  refine ⟨G, F, e, b, e1, r, h1, fun F1 H1 n => ?_⟩
  cases b with
  | true => exact ⟨G, F1, e1, c, e', n.r, hm, fun v F' H' n' hn => q v F' H' (n.trans n') (hn.back n.go r.fh)⟩
  | false => exact ⟨G, F1, e1, c, e', n.r, hm, fun v F' H' n' hn => q v F' H' (n.trans n') (hn.back n.go r.fh)⟩
/-! tests -/
def mAnd (a b : M Bool) : M Bool := fun e => (a e).bind fun p => if p.1 = true then b p.2 else .ok (false, p.2)
def mOr (a b : M Bool) : M Bool := fun e => (a e).bind fun p => if p.1 = true then .ok (true, p.2) else b p.2
def mNot (a : M Bool) : M Bool := fun e => (a e).bind fun p => .ok (!p.1, p.2)
theorem pwd_and1 {a : M Bool} (h : PTd X ex a) : PWd X (.BoolOp .And [ex] pos) a := pw_and1 h
theorem pwd_or1 {a : M Bool} (h : PTd X ex a) : PWd X (.BoolOp .Or [ex] pos) a := pw_or1 h
theorem pwd_and {a b : M Bool} (h : PTd X ex a) (hb : PWd X (.BoolOp .And (ey :: es) pos) b) : PWd X (.BoolOp .And (ex :: ey :: es) pos) (mAnd a b) := PWimp (pw_and h hb) fun σ H Q ⟨G, F, e, c, e', r, hm, q⟩ => by
  obtain ⟨k, e1, h1, hm⟩ := bind_ok2 hm
  refine ⟨G, F, e, k, e1, r, h1, fun F1 H1 n => ?_⟩
  cases k with
  | true => exact ⟨G, F1, e1, c, e', n.r, hm, fun F' H' n' => q F' H' (n.trans n')⟩
  | false =>
    cases hm
    exact q F1 H1 n
theorem pwd_or {a b : M Bool} (h : PTd X ex a) (hb : PWd X (.BoolOp .Or (ey :: es) pos) b) : PWd X (.BoolOp .Or (ex :: ey :: es) pos) (mOr a b) := PWimp (pw_or h hb) fun σ H Q ⟨G, F, e, c, e', r, hm, q⟩ => by
  obtain ⟨k, e1, h1, hm⟩ := bind_ok2 hm
  refine ⟨G, F, e, k, e1, r, h1, fun F1 H1 n => ?_⟩
  cases k with
  | true =>
    cases hm
    exact q F1 H1 n
  | false => exact ⟨G, F1, e1, c, e', n.r, hm, fun F' H' n' => q F' H' (n.trans n')⟩
theorem ptd_w {a : M Bool} (h : PWd X ex a) : PTd X ex a := h.pt
theorem ptd_not {a : M Bool} (h : PTd X ex a) : PTd X (.UnaryOp .Not ex pos) (mNot a) := PTimp (pt_not h) fun σ H Q ⟨G, F, e, c, e', r, hm, q⟩ => by
  obtain ⟨k, e1, h1, hm⟩ := bind_ok2 hm
  cases hm
  exact ⟨G, F, e, k, _, r, h1, fun F1 H1 n => q F1 H1 n⟩
/-! and, or, not as values: bools (the last of and, or anything) -/
def mAndV (a b : M Ce) : M Ce := fun e => (a e).bind fun p => match p.1 with
  | .f (.bool true) => b p.2
  | .f (.bool false) => .ok (.f (.bool false), p.2)
  | _ => .no
def mOrV (a b : M Ce) : M Ce := fun e => (a e).bind fun p => match p.1 with
  | .f (.bool true) => .ok (.f (.bool true), p.2)
  | .f (.bool false) => b p.2
  | _ => .no
def mNotV (a : M Ce) : M D := fun e => (a e).bind fun p => match p.1 with
  | .f (.bool b) => .ok (.bool (!b), p.2)
  | _ => .no
theorem pn_one {op : BoolOp} {a : M Ce} (h : PN X ex a) : PN X (.BoolOp op [ex] pos) a := pe_one h
theorem pn_and {a b : M Ce} (h : PN X ex a) (hb : PN X (.BoolOp .And (ey :: es) pos) b) : PN X (.BoolOp .And (ex :: ey :: es) pos) (mAndV a b) := PEimp (pe_and h hb) fun σ H Q ⟨G, F, e, c, e', r, hm, q⟩ => by
  obtain ⟨k, e1, h1, hm⟩ := bind_ok2 hm
  refine ⟨G, F, e, k, e1, r, h1, fun v F1 H1 n hn => ?_⟩
  simp only at hm
  split at hm
  · exact ⟨true, hn.fz.bool_inv, ⟨G, F1, e1, c, e', n.r, hm, fun v F' H' n' hn' => q v F' H' (n.trans n') (hn'.back n.go r.fh)⟩⟩
  · cases hm
    exact ⟨false, hn.fz.bool_inv, q _ F1 H1 n (.inl ⟨_, rfl, .bl _⟩)⟩
  · cases hm
theorem pn_or {a b : M Ce} (h : PN X ex a) (hb : PN X (.BoolOp .Or (ey :: es) pos) b) : PN X (.BoolOp .Or (ex :: ey :: es) pos) (mOrV a b) := PEimp (pe_or h hb) fun σ H Q ⟨G, F, e, c, e', r, hm, q⟩ => by
  obtain ⟨k, e1, h1, hm⟩ := bind_ok2 hm
  refine ⟨G, F, e, k, e1, r, h1, fun v F1 H1 n hn => ?_⟩
  simp only at hm
  split at hm
  · cases hm
    exact ⟨true, hn.fz.bool_inv, q _ F1 H1 n (.inl ⟨_, rfl, .bl _⟩)⟩
  · exact ⟨false, hn.fz.bool_inv, ⟨G, F1, e1, c, e', n.r, hm, fun v F' H' n' hn' => q v F' H' (n.trans n') (hn'.back n.go r.fh)⟩⟩
  · cases hm
theorem pf_not {a : M Ce} (h : PN X ex a) : PF X (.UnaryOp .Not ex pos) (mNotV a) := PEimp (pe_not h) fun σ H Q ⟨G, F, e, c, e', r, hm, q⟩ => by
  obtain ⟨k, e1, h1, hm⟩ := bind_ok2 hm
  simp only at hm
  split at hm
  · cases hm
    exact ⟨G, F, e, _, _, r, h1, fun v F1 H1 n hn => ⟨_, hn.fz.bool_inv, q _ F1 H1 n (.bl _)⟩⟩
  · cases hm
/-! truth -/
def D.truth : D → Rs Bool
  | .none => .ok false
  | .bool b => .ok b
  | .int i => .ok (i != 0)
  | .str s => if s.length ≤ sizeLine then .ok ((s.length : Int) != 0) else .no
  | .list ds => .ok (!ds.isEmpty)
  | .ro ds => .ok (!ds.isEmpty)
  | .tuple ds => .ok (!ds.isEmpty)
  | .tupW _ => .no
  | .dict _ _ _ => .no
theorem DnA.emp {vs : List V} {ds : List D} (h : DnA K F vs ds) : vs.isEmpty = ds.isEmpty := by cases h <;> rfl
theorem Vw.tru {b : Bool} {dx : D} {x : V} (h : Vw K F H dx x) (fh : Ex F H) (e : dx.truth = .ok b) : TruV K x H b := by
  cases dx with
  | none => rw [h.none]; cases e; rfl
  | bool b => rw [h.bool]; cases e; rfl
  | int i => rw [h.int]; cases e; rfl
  | str s =>
    rw [h.str]
    obtain ⟨h1, h2⟩ := ite_ok e
    cases h2
    exact ⟨h1, rfl⟩
  | list ds =>
    obtain ⟨a, xs, rfl, h1, h2⟩ := h.list fh
    cases e
    exact .inl ⟨xs, SqL.of h1, by rw [h2.emp]⟩
  | ro ds =>
    obtain ⟨a, xs, rfl, h1, h2⟩ := h.ro fh
    cases e
    exact .inl ⟨xs, h1, by rw [h2.emp]⟩
  | tuple ds =>
    obtain ⟨a, xs, rfl, h1, h2, _⟩ := h.tuple fh
    cases e
    exact .inr (.inl ⟨xs, h1, by rw [h2.emp]⟩)
  | tupW ds => cases e
  | dict ks vs => cases e
def mTru (m : M Hd) : M Bool := fun e => (m e).bind fun p => (p.1.get p.2).bind fun d => d.truth.bind fun b => .ok (b, p.2)
theorem ptd_tru {m : M Hd} (h : PH X ex m) (he : ∀ whole, isTrue ex X.env whole = (do let v ← whole; standAt ex.pos; holding [v] (truthy v)) := by intro _; rfl) : PTd X ex (mTru m) := PTimp (pt_truth h he) fun σ H Q ⟨G, F, e, c, e', r, hm, q⟩ => by
  obtain ⟨k, e1, h1, hm⟩ := bind_ok2 hm
  obtain ⟨d, h2, hm⟩ := Rs.bind_eq hm
  obtain ⟨b, h3, hm⟩ := Rs.bind_eq hm
  cases hm
  exact ⟨G, F, e, k, _, r, h1, fun v F1 H1 n hn => ⟨_, (hn.vw n.r h2).tru n.r.fh h3, q F1 H1 n⟩⟩
/-! chains -/
def mChain (g g' : D → D → Rs Ce) (ma mb mc : M Hd) : M Ce := fun e => (ma e).bind fun p => (mb p.2).bind fun q => (p.1.get q.2).bind fun x => (q.1.get q.2).bind fun y => (g x y).bind fun c => match c with
  | .f (.bool true) => (mc q.2).bind fun z => (q.1.get z.2).bind fun y' => (z.1.get z.2).bind fun w => (g' y' w).bind fun c' => .ok (c', z.2)
  | .f (.bool false) => .ok (.f (.bool false), q.2)
  | _ => .no
theorem opC {r r' : R2} {g g' : D → D → Rs Ce} (hs : Snd2 K r g) (hs' : Snd2 K r' g') {ma mb mc : M Hd} {σ : L2.St} {H : Hp} {Q : VK} (h : tN K (mChain g g' ma mb mc) σ H Q) : tChain r r' (tH K ma) (tH K mb) (tH K mc) σ H Q := by
  obtain ⟨G, F, e, c, e', rr, hm, q⟩ := h
  obtain ⟨x, e1, h1, hm⟩ := bind_ok2 hm
  obtain ⟨y, e2, h2, hm⟩ := bind_ok2 hm
  obtain ⟨dx, h3, hm⟩ := Rs.bind_eq hm
  obtain ⟨dy, h4, hm⟩ := Rs.bind_eq hm
  obtain ⟨c', h5, hm⟩ := Rs.bind_eq hm
  refine ⟨G, F, e, x, e1, rr, h1, fun vx F1 H1 n1 hx => ⟨G, F1, e1, y, e2, n1.r, h2, fun vy F2 H2 n2 hy => ?_⟩⟩
  refine hs F2 H2 vx vy dx dy c' _ n2.r.fh ((hx.nx n2).vw n2.r h3) (hy.vw n2.r h4) h5 fun v F' H' go nat => ?_
  have n12 := n1.trans n2
  have n3 := n2.r.step go
  simp only at hm
  split at hm
  · obtain ⟨z, e3, h6, hm⟩ := bind_ok2 hm
    obtain ⟨dy', h7, hm⟩ := Rs.bind_eq hm
    obtain ⟨dz, h8, hm⟩ := Rs.bind_eq hm
    obtain ⟨c2, h9, hm⟩ := Rs.bind_eq hm
    cases hm
    refine ⟨true, nat.fz.bool_inv, ⟨G, F', e2, z, e3, n3.r, h6, fun vz F4 H4 n4 hz => ?_⟩⟩
    refine hs' F4 H4 vy vz dy' dz c Q n4.r.fh (((hy.nx n3).nx n4).vw n4.r h7) (hz.vw n4.r h8) h9 fun v2 F5 H5 go5 nat5 => ?_
    have nn := (n12.trans n3).trans n4
    exact q v2 F5 H5 (nn.trans (n4.r.step go5)) (nat5.back nn.go rr.fh)
  · cases hm
    exact ⟨false, nat.fz.bool_inv, q _ F' H' (n12.trans n3) (.inl ⟨_, rfl, .bl _⟩)⟩
  · cases hm
theorem pn_chain {op op' : CmpOp} {r r' : R2} {g g' : D → D → Rs Ce} {ma mb mc : M Hd} (ho : OpR X (compareOp op) r) (hs : Snd2 X.K r g) (ho' : OpR X (compareOp op') r') (hs' : Snd2 X.K r' g') (ha : PH X ex ma) (hb : PH X ey mb) (hc : PH X ez mc)
    (hm : lastMarks [op, op'] [ey, ez] = false := by with_unfolding_all rfl) : PN X (.Compare ex [op, op'] [ey, ez] pos) (mChain g g' ma mb mc) := PEimp (pe_chain ho ho' ha hb hc hm) fun σ H Q h => opC hs hs' h
theorem ptd_chain {op op' : CmpOp} {r r' : R2} {g g' : D → D → Rs Ce} {ma mb mc : M Hd} (ho : OpR X (compareOp op) r) (hs : Snd2 X.K r g) (ho' : OpR X (compareOp op') r') (hs' : Snd2 X.K r' g') (ha : PH X ex ma) (hb : PH X ey mb) (hc : PH X ez mc)
    (hm : lastMarks [op, op'] [ey, ez] = false := by with_unfolding_all rfl) : PTd X (.Compare ex [op, op'] [ey, ez] pos) (mBool (mChain g g' ma mb mc)) := PTimp (pt_chain ho ho' ha hb hc hm) fun σ H Q h => opC hs hs' (bool_test h)
end
end DL

namespace DL
open PySem L2 PyProof.Rows

/-! ### equality of data -/
mutual
def D.toPy : D → PyData
  | .none => .none
  | .bool b => .bool b
  | .int i => .int i
  | .str s => .str s
  | .list ds => .list (D.toPyA ds)
  | .ro ds => .list (D.toPyA ds)
  | .tuple ds => .tuple (D.toPyA ds)
  | .tupW ds => .tuple (D.toPyA ds)
  | .dict _ _ _ => .dict []
def D.toPyA : List D → List PyData
  | [] => []
  | d :: ds => D.toPy d :: D.toPyA ds
end
mutual
/-- data without dicts, its texts of true signs, nested so deep at most -/
def D.pl : Nat → D → Bool
  | _, .none => true
  | _, .bool _ => true
  | _, .int _ => true
  | _, .str s => s.cps.all (· < 0x110000)
  | n, .list ds => D.plA n ds
  | n, .ro ds => D.plA n ds
  | n, .tuple ds => D.plA n ds
  | _, .tupW _ => false
  | _, .dict _ _ _ => false
def D.plA : Nat → List D → Bool
  | _, [] => true
  | n, d :: ds => (match n with
    | 0 => false
    | n + 1 => D.pl n d) && D.plA n ds
end
mutual
def D.eqb : D → D → Bool
  | .none, .none => true
  | .bool a, .bool b => a == b
  | .bool a, .int j => (if a then 1 else 0) == j
  | .int i, .bool b => i == (if b then 1 else 0)
  | .int i, .int j => i == j
  | .str x, .str y => x == y
  | .list xs, .list ys => D.eqbA xs ys
  | .list xs, .ro ys => D.eqbA xs ys
  | .ro xs, .list ys => D.eqbA xs ys
  | .ro xs, .ro ys => D.eqbA xs ys
  | .tuple xs, .tuple ys => D.eqbA xs ys
  | _, _ => false
def D.eqbA : List D → List D → Bool
  | [], [] => true
  | x :: xs, y :: ys => D.eqb x y && D.eqbA xs ys
  | _, _ => false
end
section
variable {K : PySem.W.Frag} {F H : Hp}
mutual
theorem Dn.dp : ∀ {v : V} {d : D} {n : Nat}, Dn K F v d → d.pl n = true → Dp K F v d.toPy
  | _, _, _, .non, _ => by unfold D.toPy; exact .non
  | _, _, _, .bl b, _ => by unfold D.toPy; exact .bl b
  | _, _, _, .int i, _ => by unfold D.toPy; exact .int i
  | _, _, _, .str x, _ => by unfold D.toPy; exact .str x
  | _, _, _, .lst h ha, p => by unfold D.toPy; unfold D.pl at p; exact .lst (SqL.of h) (DnA.dp ha p)
  | _, _, _, .ro h ha, p => by unfold D.toPy; unfold D.pl at p; exact .lst h (DnA.dp ha p)
  | _, _, _, .tup h ha, p => by unfold D.toPy; unfold D.pl at p; exact .tup h.sq (DnA.dp ha p)
  | _, _, _, .tupW _ _, p => by unfold D.pl at p; cases p
  | _, _, _, .dic _ _ _, p => by unfold D.pl at p; cases p
theorem DnA.dp : ∀ {vs : List V} {ds : List D} {n : Nat}, DnA K F vs ds → D.plA n ds = true → DpAll K F vs (D.toPyA ds)
  | _, _, _, .nil, _ => by unfold D.toPyA; exact .nil
  | _, _, 0, .cons h ha, p => by unfold D.plA at p; simp at p
  | _, _, n + 1, .cons h ha, p => by
    unfold D.plA at p
    unfold D.toPyA
    have p' := Bool.and_eq_true_iff.mp p
    exact .cons (Dn.dp h p'.1) (DnA.dp ha p'.2)
end
mutual
theorem dp_mono (e : Ex F H) : ∀ {v : V} {d : PyData}, Dp K F v d → Dp K H v d
  | _, _, .non => .non
  | _, _, .bl b => .bl b
  | _, _, .int i => .int i
  | _, _, .str x => .str x
  | _, _, .lst h ha => .lst (Evl.ex_l e h) (dpA_mono e ha)
  | _, _, .tup h ha => .tup (Evl.ex_t e h) (dpA_mono e ha)
theorem dpA_mono (e : Ex F H) : ∀ {vs : List V} {ds : List PyData}, DpAll K F vs ds → DpAll K H vs ds
  | _, _, .nil => .nil
  | _, _, .cons h ha => .cons (dp_mono e h) (dpA_mono e ha)
end
mutual
theorem D.pl_ok : ∀ {d : D} {n : Nat}, d.pl n = true → d.toPy.canLay0 = true ∧ d.toPy.depth ≤ n + 1
  | .none, _, _ => by simp [D.toPy, PyData.canLay0, PyData.depth]
  | .bool _, _, _ => by simp [D.toPy, PyData.canLay0, PyData.depth]
  | .int _, _, _ => by simp [D.toPy, PyData.canLay0, PyData.depth]
  | .str s, _, p => by
    unfold D.pl at p
    unfold D.toPy PyData.canLay0 PyData.depth
    exact ⟨p, Nat.zero_le _⟩
  | .list ds, n, p => by
    unfold D.pl at p
    have := D.plA_ok p
    simp only [D.toPy, PyData.canLay0, PyData.depth]
    exact ⟨this.1, by have := this.2; omega⟩
  | .ro ds, n, p => by
    unfold D.pl at p
    have := D.plA_ok p
    simp only [D.toPy, PyData.canLay0, PyData.depth]
    exact ⟨this.1, by have := this.2; omega⟩
  | .tuple ds, n, p => by
    unfold D.pl at p
    have := D.plA_ok p
    simp only [D.toPy, PyData.canLay0, PyData.depth]
    exact ⟨this.1, by have := this.2; omega⟩
  | .tupW _, _, p => by unfold D.pl at p; cases p
  | .dict _ _ _, _, p => by unfold D.pl at p; cases p
theorem D.plA_ok : ∀ {ds : List D} {n : Nat}, D.plA n ds = true → PyData.canLayAll0 (D.toPyA ds) = true ∧ PyData.depthAll (D.toPyA ds) ≤ n
  | [], n, _ => by simp [D.toPyA, PyData.canLayAll0, PyData.depthAll]
  | d :: ds, 0, p => by unfold D.plA at p; simp at p
  | d :: ds, n + 1, p => by
    unfold D.plA at p
    have p' := Bool.and_eq_true_iff.mp p
    have h1 := D.pl_ok p'.1
    have h2 := D.plA_ok p'.2
    simp only [D.toPyA, PyData.canLayAll0, PyData.depthAll, h1.1, h2.1, Bool.and_self, true_and]
    omega
end
mutual
theorem D.eqb_py : ∀ {x y : D} {n m : Nat}, x.pl n = true → y.pl m = true → PyData.eqv x.toPy y.toPy = D.eqb x y
  | x, y, n, m, hx, hy => by
    cases x <;> cases y <;> first
      | (unfold D.pl at hx; exact absurd hx (by decide))
      | (unfold D.pl at hy; exact absurd hy (by decide))
      | (simp only [D.toPy, PyData.eqv, D.eqb]; done)
      | (simp only [D.toPy, PyData.eqv, D.eqb]; unfold D.pl at hx hy; exact D.eqb_pyA hx hy)
theorem D.eqb_pyA : ∀ {xs ys : List D} {n m : Nat}, D.plA n xs = true → D.plA m ys = true → PyData.eqvAll (D.toPyA xs) (D.toPyA ys) = D.eqbA xs ys
  | [], [], _, _, _, _ => by simp only [D.toPyA, PyData.eqvAll, D.eqbA]
  | [], y :: ys, _, _, _, _ => by simp only [D.toPyA, PyData.eqvAll, D.eqbA]
  | x :: xs, [], _, _, _, _ => by simp only [D.toPyA, PyData.eqvAll, D.eqbA]
  | x :: xs, y :: ys, 0, _, hx, _ => by unfold D.plA at hx; simp at hx
  | x :: xs, y :: ys, _ + 1, 0, _, hy => by unfold D.plA at hy; simp at hy
  | x :: xs, y :: ys, n + 1, m + 1, hx, hy => by
    unfold D.plA at hx hy
    have hx' := Bool.and_eq_true_iff.mp hx
    have hy' := Bool.and_eq_true_iff.mp hy
    simp only [D.toPyA, PyData.eqvAll, D.eqbA]
    rw [D.eqb_py hx'.1 hy'.1, D.eqb_pyA hx'.2 hy'.2]
end
theorem Vw.dp {v : V} {d : D} (h : Vw K F H d v) (fh : Ex F H) {n : Nat} (p : d.pl n = true) : Dp K H v d.toPy := by
  rcases h with h | ⟨a, o, xs, c, rfl, h1, h2, h3, rfl⟩
  · exact dp_mono fh (h.dp p)
  · cases c with
    | f d => exact h2.elim
    | l q ds =>
      have h2' : o = .lst xs := h2
      subst h2'
      simp only [Ce.d] at p ⊢
      unfold D.pl at p
      unfold D.toPy
      exact .lst (SqL.of h1) (dpA_mono fh (DnA.dp h3 p))
    | k q t ks vs =>
      simp only [Ce.d] at p
      unfold D.pl at p
      cases p
end
/-! plain scalars by themselves -/
def D.sc : D → D → Bool
  | .int _, .int _ => true | .str _, .str _ => true | .bool _, .bool _ => true | .none, .none => true | _, _ => false
def eqD (x y : D) : Rs Ce := if (x.sc y || (x.pl 60 && y.pl 60)) = true then .ok (.f (.bool (D.eqb x y))) else .no
def neD (x y : D) : Rs Ce := if (x.sc y || (x.pl 60 && y.pl 60)) = true then .ok (.f (.bool (!D.eqb x y))) else .no
def rEqA (K : PySem.W.Frag) : R2 := fun x y H Q => rEq x y H Q ∨ rEqD K x y H Q
def rNeA (K : PySem.W.Frag) : R2 := fun x y H Q => rNe x y H Q ∨ rNeD K x y H Q
theorem op_eqA {X : Cx} (hu : X.A.units + 64 < cLine) : OpR X (compareOp .Eq) (rEqA X.K) := op_eq.or (op_eqD hu)
theorem op_neA {X : Cx} (hu : X.A.units + 64 < cLine) : OpR X (compareOp .NotEq) (rNeA X.K) := op_ne.or (op_neD hu)
section
variable {K : PySem.W.Frag} {F H : Hp}
/-- a mere value comes -/
theorem ret1 {c : Ce} {v : V} {d : D} {Q : VK} (fh : Ex F H) (hd : Dn K F v d) (hc : c = .f d) (q : ∀ v F' H', Go F H F' H' noA → NAt K H F' H' c v → Q v H') : Q v H := q v F H (Go.refl fh) (.inl ⟨d, hc, hd⟩)
theorem shaped_pl {d : D} (h : d.pl 60 = true) : SeqAt.shaped d.toPy = true := by
  have := D.pl_ok h
  show (d.toPy.canLay0 && decide (d.toPy.depth ≤ 64)) = true
  rw [this.1, decide_eq_true (show d.toPy.depth ≤ 64 by omega)]
  rfl
theorem dec_vint (i j : Int) : decide (V.int i = V.int j) = (i == j) := dec_int
theorem sc_eq {dx dy : D} {x y : V} (h : dx.sc dy = true) (hx : Vw K F H dx x) (hy : Vw K F H dy y) : scal x y = true ∧ decide (x = y) = D.eqb dx dy := by
  cases dx <;> cases dy <;> first
    | (cases h; done)
    | skip
  · rw [hx.none, hy.none]
    refine ⟨rfl, ?_⟩
    unfold D.eqb
    rfl
  · rw [hx.bool, hy.bool]
    refine ⟨rfl, ?_⟩
    unfold D.eqb
    exact dec_bl
  · rw [hx.int, hy.int]
    refine ⟨rfl, ?_⟩
    unfold D.eqb
    exact dec_int
  · rw [hx.str, hy.str]
    refine ⟨rfl, ?_⟩
    unfold D.eqb
    exact dec_str
theorem snd_eq : Snd2 K (rEqA K) eqD := fun F H x y dx dy c Q fh hx hy hg q => by
  obtain ⟨h1, hg⟩ := ite_ok hg
  have hc : c = .f (.bool (D.eqb dx dy)) := (Rs.ok.inj hg).symm
  by_cases h : dx.sc dy = true
  · obtain ⟨e1, e2⟩ := sc_eq h hx hy
    refine .inl ⟨e1, ?_⟩
    rw [e2]
    exact ret1 fh (.bl _) hc q
  · have h2 : (dx.pl 60 && dy.pl 60) = true := by simpa [h] using h1
    obtain ⟨p1, p2⟩ := Bool.and_eq_true_iff.mp h2
    refine .inr ⟨_, _, hx.dp fh p1, hy.dp fh p2, shaped_pl p1, shaped_pl p2, ?_⟩
    rw [D.eqb_py p1 p2]
    exact ret1 fh (.bl _) hc q
theorem snd_ne : Snd2 K (rNeA K) neD := fun F H x y dx dy c Q fh hx hy hg q => by
  obtain ⟨h1, hg⟩ := ite_ok hg
  have hc : c = .f (.bool (!D.eqb dx dy)) := (Rs.ok.inj hg).symm
  by_cases h : dx.sc dy = true
  · obtain ⟨e1, e2⟩ := sc_eq h hx hy
    refine .inl ⟨e1, ?_⟩
    rw [e2]
    exact ret1 fh (.bl _) hc q
  · have h2 : (dx.pl 60 && dy.pl 60) = true := by simpa [h] using h1
    obtain ⟨p1, p2⟩ := Bool.and_eq_true_iff.mp h2
    refine .inr ⟨_, _, hx.dp fh p1, hy.dp fh p2, shaped_pl p1, shaped_pl p2, ?_⟩
    rw [D.eqb_py p1 p2]
    exact ret1 fh (.bl _) hc q

/-! ### arithmetic -/
def addD : D → D → Rs Ce
  | .int i, .int j => .ok (.f (.int (i + j)))
  | .str a, .str b => if a.length + b.length ≤ sizeLine then .ok (.f (.str (a ++ b))) else .no
  | .tuple a, .tuple b => if a.length + b.length ≤ sizeLine then .ok (.f (.tuple (a ++ b))) else .no
  | .list a, .list b => if a.length + b.length ≤ sizeLine then .ok (.l false (a ++ b)) else .no
  | _, _ => .no
def rAddA (K : PySem.W.Frag) : R2 := fun x y H Q => rI0 (fun i j => .int (i + j)) x y H Q ∨ (∃ i j, x = .str i ∧ y = .str j ∧ i.length + j.length ≤ sizeLine ∧ Q (.str (i ++ j)) H) ∨ rCatG K x y H Q ∨ rCat x y H Q
theorem op_addA {X : Cx} : OpR X (binaryOp .Add) (rAddA X.K) := op_add.or (op_add_str.or (op_catG.or op_cat))
theorem snd_add : Snd2 K (rAddA K) addD := fun F H x y dx dy c Q fh hx hy hg q => by
  cases dx <;> cases dy <;> first
    | (cases hg; done)
    | skip
  · rename_i i j
    cases hg
    rw [hx.int, hy.int]
    exact .inl ⟨i, j, rfl, rfl, ret1 fh (.int _) rfl q⟩
  · rename_i i j
    obtain ⟨h1, hg⟩ := ite_ok hg
    cases hg
    rw [hx.str, hy.str]
    exact .inr (.inl ⟨i, j, rfl, rfl, h1, ret1 fh (.str _) rfl q⟩)
  · obtain ⟨h1, hg⟩ := ite_ok hg
    cases hg
    obtain ⟨a, xs, rfl, h3, h4⟩ := hx.list fh
    obtain ⟨b, ys, rfl, h5, h6⟩ := hy.list fh
    refine .inr (.inr (.inr ⟨a, b, xs, ys, rfl, rfl, h3, h5, by rw [h4.len, h6.len]; exact h1, fun p hp => ?_⟩))
    exact q _ F _ (Go.newO fh hp) (.inr ⟨rfl, p, _, _, rfl, hp, ex_none fh hp, upd_same, rfl, h4.app h6⟩)
  · obtain ⟨h1, hg⟩ := ite_ok hg
    cases hg
    obtain ⟨a, xs, rfl, h3, h4, h4d⟩ := hx.tuple fh
    obtain ⟨b, ys, rfl, h5, h6, h6d⟩ := hy.tuple fh
    refine .inr (.inr (.inl ⟨a, b, xs, ys, rfl, rfl, h3, h5, by rw [h4.len, h6.len]; exact h1, fun e => ?_, fun e1 e2 => ?_, fun _ _ p its hp => ?_⟩))
    · subst e
      cases h4
      exact ret1 fh h6d rfl q
    · subst e2
      cases h6
      refine ret1 fh h4d ?_ q
      rw [List.append_nil]
    · have go : Go F H (upd F p (.frz (gO its) (.tup (xs ++ ys)))) (upd H p (.frz (gO its) (.tup (xs ++ ys)))) noA := Go.newF fh hp
      exact q _ _ _ go (.inl ⟨_, rfl, .tup (.inl upd_same) ((h4.app h6).mono go.ff)⟩)
def subD : D → D → Rs Ce
  | .int i, .int j => .ok (.f (.int (i - j)))
  | _, _ => .no
theorem snd_sub : Snd2 K (rI0 fun i j => .int (i - j)) subD := fun F H x y dx dy c Q fh hx hy hg q => by
  cases dx <;> cases dy <;> first
    | (cases hg; done)
    | skip
  rename_i i j
  cases hg
  rw [hx.int, hy.int]
  exact ⟨i, j, rfl, rfl, ret1 fh (.int _) rfl q⟩
/-- a product that is not too large -/
def MulOk (i j : Int) : Prop := (-(2 ^ 64) < i ∧ i < 2 ^ 64) ∨ (-(2 ^ 64) < j ∧ j < 2 ^ 64) ∨ (i.natAbs < 2 ^ 400000 ∧ j.natAbs < 2 ^ 400000)
noncomputable instance (i j : Int) : Decidable (MulOk i j) := Classical.propDecidable _
noncomputable def mulD : D → D → Rs Ce
  | .int i, .int j => if MulOk i j then .ok (.f (.int (i * j))) else .no
  | .list ds, .int k => if (-(2 ^ 63) ≤ k ∧ k < 2 ^ 63 ∧ ds.length * k.toNat ≤ sizeLine) then .ok (.l false (List.replicate k.toNat ds).flatten) else .no
  | _, _ => .no
def rMulA : R2 := fun x y H Q => rI CMul (fun i j => .int (i * j)) x y H Q ∨ rI CMulW (fun i j => .int (i * j)) x y H Q ∨ rRep x y H Q
theorem op_mulA {X : Cx} : OpR X (binaryOp .Mult) rMulA := op_mul.or (op_mulW.or op_rep)
theorem DnA.rep {xs : List V} {ds : List D} (h : DnA K F xs ds) : ∀ k : Nat, DnA K F (List.replicate k xs).flatten (List.replicate k ds).flatten
  | 0 => by simpa using DnA.nil
  | k + 1 => by
    rw [List.replicate_succ, List.replicate_succ, List.flatten_cons, List.flatten_cons]
    exact h.app (DnA.rep h k)
theorem mulOk_r {i j : Int} (h : MulOk i j) : CMul i j ∨ CMulW i j := by
  rcases h with h | h | ⟨h1, h2⟩
  · exact .inl (.inl h)
  · exact .inl (.inr h)
  · exact .inr (wide_mul h1 h2 (by decide) (by decide) (by decide))
theorem snd_mul : Snd2 K rMulA mulD := fun F H x y dx dy c Q fh hx hy hg q => by
  cases dx <;> cases dy <;> first
    | (cases hg; done)
    | skip
  · rename_i i j
    obtain ⟨h1, hg⟩ := ite_ok hg
    cases hg
    rw [hx.int, hy.int]
    rcases mulOk_r h1 with h | h
    · exact .inl ⟨i, j, rfl, rfl, h, ret1 fh (.int _) rfl q⟩
    · exact .inr (.inl ⟨i, j, rfl, rfl, h, ret1 fh (.int _) rfl q⟩)
  · rename_i ds k
    obtain ⟨⟨h1, h2, h3⟩, hg⟩ := ite_ok hg
    cases hg
    obtain ⟨a, xs, rfl, h5, h6⟩ := hx.list fh
    rw [hy.int]
    refine .inr (.inr ⟨a, k, xs, rfl, rfl, h5, h1, h2, by rw [h6.len]; exact h3, fun p hp => ?_⟩)
    exact q _ F _ (Go.newO fh hp) (.inr ⟨rfl, p, _, _, rfl, hp, ex_none fh hp, upd_same, rfl, h6.rep _⟩)
def DivOk (j : Int) : Prop := 0 < j ∧ j.natAbs < 2 ^ 8000
noncomputable instance (j : Int) : Decidable (DivOk j) := Classical.propDecidable _
noncomputable def fdivD : D → D → Rs Ce
  | .int i, .int j => if DivOk j then .ok (.f (.int (i / j))) else if j ≠ 0 ∧ j.natAbs < 1073741824 then .ok (.f (.int (i.fdiv j))) else .no
  | _, _ => .no
def rDivA : R2 := fun x y H Q => rI CDivW (fun i j => .int (i / j)) x y H Q ∨ rI CDivN (fun i j => .int (i.fdiv j)) x y H Q
theorem op_fdivA {X : Cx} : OpR X (binaryOp .FloorDiv) rDivA := op_fdivW.or op_fdivN
theorem divOk_w {j : Int} (h : DivOk j) : CDivW 0 j := wide_div h.1 h.2 (by decide) (by decide)
theorem snd_fdiv : Snd2 K rDivA fdivD := fun F H x y dx dy c Q fh hx hy hg q => by
  cases dx <;> cases dy <;> first
    | (cases hg; done)
    | skip
  rename_i i j
  rw [hx.int, hy.int]
  simp only [fdivD] at hg
  by_cases h : DivOk j
  · rw [if_pos h] at hg
    cases hg
    exact .inl ⟨i, j, rfl, rfl, wide_div h.1 h.2 (by decide) (by decide), ret1 fh (.int _) rfl q⟩
  · rw [if_neg h] at hg
    obtain ⟨h1, hg⟩ := ite_ok hg
    cases hg
    exact .inr ⟨i, j, rfl, rfl, h1, ret1 fh (.int _) rfl q⟩
def modD : D → D → Rs Ce
  | .int i, .int j => if 0 < j then .ok (.f (.int (i % j))) else if j ≠ 0 then .ok (.f (.int (i.fmod j))) else .no
  | _, _ => .no
def rModA : R2 := fun x y H Q => rI (fun _ j => 0 < j) (fun i j => .int (i % j)) x y H Q ∨ rI (fun _ j => j ≠ 0) (fun i j => .int (i.fmod j)) x y H Q
theorem op_modA {X : Cx} : OpR X (binaryOp .Mod) rModA := op_mod.or op_modN
theorem snd_mod : Snd2 K rModA modD := fun F H x y dx dy c Q fh hx hy hg q => by
  cases dx <;> cases dy <;> first
    | (cases hg; done)
    | skip
  rename_i i j
  rw [hx.int, hy.int]
  simp only [modD] at hg
  by_cases h : 0 < j
  · rw [if_pos h] at hg
    cases hg
    exact .inl ⟨i, j, rfl, rfl, h, ret1 fh (.int _) rfl q⟩
  · rw [if_neg h] at hg
    obtain ⟨h1, hg⟩ := ite_ok hg
    cases hg
    exact .inr ⟨i, j, rfl, rfl, h1, ret1 fh (.int _) rfl q⟩
def powD : D → D → Rs Ce
  | .int i, .int j => if 0 ≤ j ∧ j ≤ 10000 ∧ i.natAbs < 2 ^ 64 then .ok (.f (.int (i ^ j.toNat))) else .no
  | _, _ => .no
theorem snd_pow : Snd2 K (rI CPow fun i j => .int (i ^ j.toNat)) powD := fun F H x y dx dy c Q fh hx hy hg q => by
  cases dx <;> cases dy <;> first
    | (cases hg; done)
    | skip
  rename_i i j
  obtain ⟨⟨h1, h2, h3⟩, hg⟩ := ite_ok hg
  cases hg
  rw [hx.int, hy.int]
  exact ⟨i, j, rfl, rfl, ⟨h1, by omega, h3⟩, ret1 fh (.int _) rfl q⟩
def negD : D → Rs Ce
  | .int i => .ok (.f (.int (-i)))
  | _ => .no
theorem snd_neg : Snd1 K (rU fun i => .int (-i)) negD := fun F H x dx c Q fh hx hg q => by
  cases dx <;> first
    | (cases hg; done)
    | skip
  rename_i i
  cases hg
  rw [hx.int]
  exact ⟨i, rfl, ret1 fh (.int _) rfl q⟩
/-! ### comparisons of ints (and texts) -/
def ltD : D → D → Rs Ce
  | .int i, .int j => .ok (.f (.bool (decide (i < j))))
  | .str x, .str y => .ok (.f (.bool (decide (x.cps.toList < y.cps.toList))))
  | _, _ => .no
def leD : D → D → Rs Ce
  | .int i, .int j => .ok (.f (.bool (decide (i ≤ j))))
  | _, _ => .no
def gtD : D → D → Rs Ce
  | .int i, .int j => .ok (.f (.bool (decide (j < i))))
  | _, _ => .no
def geD : D → D → Rs Ce
  | .int i, .int j => .ok (.f (.bool (decide (j ≤ i))))
  | _, _ => .no
def rLtA : R2 := fun x y H Q => rI0 (fun i j => .bl (decide (i < j))) x y H Q ∨ (∃ i j, x = .str i ∧ y = .str j ∧ Q (.bl (decide (i.cps.toList < j.cps.toList))) H)
theorem op_ltA {X : Cx} : OpR X (compareOp .Lt) rLtA := op_lt.or op_lt_str
theorem snd_lt : Snd2 K rLtA ltD := fun F H x y dx dy c Q fh hx hy hg q => by
  cases dx <;> cases dy <;> first
    | (cases hg; done)
    | skip
  · rename_i i j
    cases hg
    rw [hx.int, hy.int]
    exact .inl ⟨i, j, rfl, rfl, ret1 fh (.bl _) rfl q⟩
  · rename_i i j
    cases hg
    rw [hx.str, hy.str]
    exact .inr ⟨i, j, rfl, rfl, ret1 fh (.bl _) rfl q⟩
theorem snd_le : Snd2 K (rI0 fun i j => .bl (decide (i ≤ j))) leD := fun F H x y dx dy c Q fh hx hy hg q => by
  cases dx <;> cases dy <;> first
    | (cases hg; done)
    | skip
  rename_i i j
  cases hg
  rw [hx.int, hy.int]
  exact ⟨i, j, rfl, rfl, ret1 fh (.bl _) rfl q⟩
theorem snd_gt : Snd2 K (rI0 fun i j => .bl (decide (j < i))) gtD := fun F H x y dx dy c Q fh hx hy hg q => by
  cases dx <;> cases dy <;> first
    | (cases hg; done)
    | skip
  rename_i i j
  cases hg
  rw [hx.int, hy.int]
  exact ⟨i, j, rfl, rfl, ret1 fh (.bl _) rfl q⟩
theorem snd_ge : Snd2 K (rI0 fun i j => .bl (decide (j ≤ i))) geD := fun F H x y dx dy c Q fh hx hy hg q => by
  cases dx <;> cases dy <;> first
    | (cases hg; done)
    | skip
  rename_i i j
  cases hg
  rw [hx.int, hy.int]
  exact ⟨i, j, rfl, rfl, ret1 fh (.bl _) rfl q⟩
/-! ### is None, is True, is False -/
def D.isN : D → Bool
  | .none => true | _ => false
def D.isB (b : Bool) : D → Bool
  | .bool c => c == b | _ => false
def isD : D → D → Rs Ce
  | x, .none => .ok (.f (.bool x.isN))
  | x, .bool b => .ok (.f (.bool (x.isB b)))
  | _, _ => .no
def isntD : D → D → Rs Ce
  | x, .none => .ok (.f (.bool (!x.isN)))
  | x, .bool b => .ok (.f (.bool (!x.isB b)))
  | _, _ => .no
def rIsA : R2 := fun x y H Q => (y = .non ∧ Q (.bl (decide (x = .non))) H) ∨ ∃ b, y = .bl b ∧ Q (.bl (decide (x = .bl b))) H
def rIsntA : R2 := fun x y H Q => (y = .non ∧ Q (.bl (!decide (x = .non))) H) ∨ ∃ b, y = .bl b ∧ Q (.bl (!decide (x = .bl b))) H
theorem beq_val_bool {X : Cx} {x : V} {v : Value} {b : Bool} (rx : RelV x v) : (v == Value.bool b) = decide (x = V.bl b) := by
  cases x <;> first
    | (obtain ⟨t, rfl⟩ := rx; rw [Bool.eq_iff_iff]; simp; done)
    | (cases rx; rw [Bool.eq_iff_iff]; simp; done)
theorem plain_bool {x : V} {v : Value} {b : Bool} (rx : RelV x v) : plainIs v (.bool b) = true := by
  cases x <;> first
    | (obtain ⟨t, rfl⟩ := rx; rfl)
    | (cases rx; rfl)
theorem op_isB {X : Cx} : OpR X (compareOp .Is) (fun x y H Q => ∃ b, y = .bl b ∧ Q (.bl (decide (x = .bl b))) H) := by
  intro pins s σ H x y v u Q I rx ry h
  obtain ⟨b, rfl, q⟩ := h
  cases (show u = Value.bool b from ry)
  exact wpAny_is_plain (plain_bool rx) ⟨.bl _, H, I, by rw [beq_val_bool (X := X) rx]; rfl, q⟩
theorem op_isntB {X : Cx} : OpR X (compareOp .IsNot) (fun x y H Q => ∃ b, y = .bl b ∧ Q (.bl (!decide (x = .bl b))) H) := by
  intro pins s σ H x y v u Q I rx ry h
  obtain ⟨b, rfl, q⟩ := h
  cases (show u = Value.bool b from ry)
  exact wpAny_isNot_plain (plain_bool rx) ⟨.bl _, H, I, by rw [beq_val_bool (X := X) rx]; rfl, q⟩
theorem op_isA {X : Cx} : OpR X (compareOp .Is) rIsA := op_isN.or op_isB
theorem op_isntA {X : Cx} : OpR X (compareOp .IsNot) rIsntA := op_notN.or op_isntB
theorem Vw.isN {d : D} {v : V} (h : Vw K F H d v) : decide (v = .non) = d.isN := by
  rcases h with h | ⟨a, o, xs, c, rfl, h1, h2, h3, rfl⟩
  · cases h <;> rfl
  · cases c <;> first | exact h2.elim | rfl
theorem Vw.isB {d : D} {v : V} {b : Bool} (h : Vw K F H d v) : decide (v = .bl b) = d.isB b := by
  rcases h with h | ⟨a, o, xs, c, rfl, h1, h2, h3, rfl⟩
  · cases h <;> first | rfl | (rw [Bool.eq_iff_iff]; simp [D.isB])
  · cases c <;> first | exact h2.elim | rfl
theorem snd_is : Snd2 K rIsA isD := fun F H x y dx dy c Q fh hx hy hg q => by
  cases dy <;> first
    | (cases hg; done)
    | skip
  · have hc : c = .f (.bool dx.isN) := (Rs.ok.inj hg).symm
    refine .inl ⟨hy.none, ?_⟩
    rw [hx.isN]
    exact ret1 fh (.bl _) hc q
  · rename_i b
    have hc : c = .f (.bool (dx.isB b)) := (Rs.ok.inj hg).symm
    refine .inr ⟨b, hy.bool, ?_⟩
    rw [hx.isB]
    exact ret1 fh (.bl _) hc q
theorem snd_isnt : Snd2 K rIsntA isntD := fun F H x y dx dy c Q fh hx hy hg q => by
  cases dy <;> first
    | (cases hg; done)
    | skip
  · have hc : c = .f (.bool (!dx.isN)) := (Rs.ok.inj hg).symm
    refine .inl ⟨hy.none, ?_⟩
    rw [hx.isN]
    exact ret1 fh (.bl _) hc q
  · rename_i b
    have hc : c = .f (.bool (!dx.isB b)) := (Rs.ok.inj hg).symm
    refine .inr ⟨b, hy.bool, ?_⟩
    rw [hx.isB]
    exact ret1 fh (.bl _) hc q
/-! ### subscripts -/
def ixD : D → D → Rs Ce
  | .tuple ds, .int i => match atI ds i with
    | some d => .ok (.f d)
    | _ => .no
  | .list ds, .int i => match atI ds i with
    | some d => .ok (.f d)
    | _ => .no
  | .ro ds, .int i => match atI ds i with
    | some d => .ok (.f d)
    | _ => .no
  | .str s, .int i => if s.length ≤ sizeLine then (match atI s.cps.toList i with
    | some c => .ok (.f (.str ⟨#[c]⟩))
    | _ => .no) else .no
  | _, _ => .no
theorem DnA.atI {xs : List V} {ds : List D} {i : Int} {d : D} (h : DnA K F xs ds) (e : L2.atI ds i = some d) : ∃ v, L2.atI xs i = some v ∧ Dn K F v d := by
  unfold L2.atI at e ⊢
  rw [h.len]
  cases q : ixN ds.length i with
  | none => rw [q] at e; cases e
  | some j =>
    rw [q] at e
    exact h.get e
theorem snd_ix : Snd2 K (rIx K) ixD := fun F H x y dx dy c Q fh hx hy hg q => by
  cases dx <;> cases dy <;> first
    | (cases hg; done)
    | skip
  · rename_i s i
    obtain ⟨h1, hg⟩ := ite_ok hg
    split at hg
    · rename_i ch h2
      cases hg
      rw [hx.str, hy.int]
      exact .inr (.inr ⟨s, i, ch, rfl, rfl, h1, h2, ret1 fh (.str _) rfl q⟩)
    · cases hg
  · rename_i ds i
    simp only [ixD] at hg
    split at hg
    · rename_i d h2
      cases hg
      obtain ⟨a, xs, rfl, h3, h4⟩ := hx.list fh
      obtain ⟨v, h5, h6⟩ := h4.atI h2
      rw [hy.int]
      exact .inl ⟨a, xs, i, v, rfl, rfl, SqL.of h3, h5, ret1 fh h6 rfl q⟩
    · cases hg
  · rename_i ds i
    simp only [ixD] at hg
    split at hg
    · rename_i d h2
      cases hg
      obtain ⟨a, xs, rfl, h3, h4, _⟩ := hx.tuple fh
      obtain ⟨v, h5, h6⟩ := h4.atI h2
      rw [hy.int]
      exact .inr (.inl ⟨a, xs, i, v, rfl, rfl, h3, h5, ret1 fh h6 rfl q⟩)
    · cases hg
  · rename_i ds i
    simp only [ixD] at hg
    split at hg
    · rename_i d h2
      cases hg
      obtain ⟨a, xs, rfl, h3, h4⟩ := hx.ro fh
      obtain ⟨v, h5, h6⟩ := h4.atI h2
      rw [hy.int]
      exact .inl ⟨a, xs, i, v, rfl, rfl, h3, h5, ret1 fh h6 rfl q⟩
    · cases hg
/-! ### built-in functions -/
theorem VwA.one {ds : List D} {xs : List V} {d : D} (h : VwA K F H [d] xs) : ∃ x, xs = [x] ∧ Vw K F H d x := by
  cases h with
  | cons h t => cases t; exact ⟨_, rfl, h⟩
theorem VwA.two {d d' : D} {xs : List V} (h : VwA K F H [d, d'] xs) : ∃ x y, xs = [x, y] ∧ Vw K F H d x ∧ Vw K F H d' y := by
  cases h with
  | cons h t => cases t with
    | cons h' t' => cases t'; exact ⟨_, _, rfl, h, h'⟩
def lenD : List D → Rs Ce
  | [.str s] => if s.length ≤ sizeLine then .ok (.f (.int s.length)) else .no
  | [.list ds] => .ok (.f (.int ds.length))
  | [.ro ds] => .ok (.f (.int ds.length))
  | [.tuple ds] => .ok (.f (.int ds.length))
  | [.dict _ ks _] => .ok (.f (.int ks.length))
  | _ => .no
theorem dcO_len {t : Bool} {o : HO} {ks : List D} {xs : List V} (h : DcO t o ks xs) : ks.length = xs.length := by
  rcases h with ⟨_, kvs, _, rfl, rfl⟩ | ⟨_, kvs, _, rfl, rfl⟩ <;> simp
/-- int(x) -/
def intD : List D → Rs Ce
  | [.int i] => .ok (.f (.int i))
  | [.bool b] => .ok (.f (.int (if b then 1 else 0)))
  | _ => .no
theorem snd_int : SndL K (fun xs H Q => (∃ i, xs = [.int i] ∧ Q (.int i) H) ∨ ∃ k, xs = [.bl k] ∧ Q (.int (if k then 1 else 0)) H) intD := fun F H xs ds c Q fh hx hg q => by
  unfold intD at hg
  split at hg
  · cases hg
    obtain ⟨x, rfl, h⟩ := hx.one (ds := [])
    rw [h.int]
    exact .inl ⟨_, rfl, ret1 fh (.int _) rfl q⟩
  · cases hg
    obtain ⟨x, rfl, h⟩ := hx.one (ds := [])
    rw [h.bool]
    exact .inr ⟨_, rfl, ret1 fh (.int _) rfl q⟩
  · cases hg
def absD : List D → Rs Ce
  | [.int i] => .ok (.f (.int (if i < 0 then -i else i)))
  | _ => .no
theorem snd_abs : SndL K (fun xs H Q => ∃ i, xs = [.int i] ∧ Q (.int (if i < 0 then -i else i)) H) absD := fun F H xs ds c Q fh hx hg q => by
  unfold absD at hg
  split at hg
  · cases hg
    obtain ⟨x, rfl, h⟩ := hx.one (ds := [])
    rw [h.int]
    exact ⟨_, rfl, ret1 fh (.int _) rfl q⟩
  · cases hg
def gcdD : List D → Rs Ce
  | [.int a, .int b] => .ok (.f (.int ((Nat.gcd a.natAbs b.natAbs : Nat) : Int)))
  | _ => .no
theorem snd_gcd : SndL K rGcd gcdD := fun F H xs ds c Q fh hx hg q => by
  unfold gcdD at hg
  split at hg
  · cases hg
    obtain ⟨x, y, rfl, h, h'⟩ := hx.two
    rw [h.int, h'.int]
    exact ⟨_, _, rfl, ret1 fh (.int _) rfl q⟩
  · cases hg
def lcmD : List D → Rs Ce
  | [.int a, .int b] => if a.natAbs < 2 ^ 64 ∧ b.natAbs < 2 ^ 64 then .ok (.f (.int ((Nat.lcm a.natAbs b.natAbs : Nat) : Int))) else .no
  | _ => .no
def rLcm : List V → Hp → VK → Prop := fun vs H Q => ∃ a b : Int, vs = [.int a, .int b] ∧ a.natAbs < 2 ^ 64 ∧ b.natAbs < 2 ^ 64 ∧ Q (.int ((Nat.lcm a.natAbs b.natAbs : Nat) : Int)) H
theorem cr_lcm {X : Cx} : CallR X (.builtin "math.lcm") rLcm := by
  intro pins s σ H vs us Q I r h
  obtain ⟨a, b, rfl, h1, h2, q⟩ := h
  obtain ⟨t, u, rfl⟩ := Vals.int2 r
  exact PySem.W.mc_lcm h1 h2 fun _ => ⟨.int _, H, I.tok _, ⟨_, rfl⟩, q⟩
theorem snd_lcm : SndL K rLcm lcmD := fun F H xs ds c Q fh hx hg q => by
  unfold lcmD at hg
  split at hg
  · obtain ⟨⟨h1, h2⟩, hg⟩ := ite_ok hg
    cases hg
    obtain ⟨x, y, rfl, h, h'⟩ := hx.two
    rw [h.int, h'.int]
    exact ⟨_, _, rfl, h1, h2, ret1 fh (.int _) rfl q⟩
  · cases hg
end
end DL

namespace DL
open PySem L2 PyProof.Rows

section
variable {X : Cx}
theorem PSimp {st : Stmt} {t t' : TS} (h : PS X st t) (hi : ∀ D σ H, t' D σ H → t D σ H) : PS X st t' := ⟨fun pins s σ H D I q => h.run pins s σ H D I (hi D σ H q)⟩
theorem PSsimp {sts : List Stmt} {t t' : TS} (h : PSs X sts t) (hi : ∀ D σ H, t' D σ H → t D σ H) : PSs X sts t' := ⟨fun pins s σ H D I q => h.run pins s σ H D I (hi D σ H q)⟩
theorem PGimp {tg : Expr} {t t' : TG} (h : PG X tg t) (hi : ∀ v σ H Q, t' v σ H Q → t v σ H Q) : PG X tg t' := ⟨fun pins s σ H v u Q I r q => h.run pins s σ H v u Q I r (hi v σ H Q q)⟩
end
/-! ### statements -/
/-- a result: frozen data, or an object that is new since the entry -/
def RtA (K : PySem.W.Frag) (G : Bs) (F' H' : Hp) (c : Ce) (v : V) : Prop :=
  (∃ d, c = .f d ∧ Dn K F' v d) ∨ (c.io = false ∧ ∃ a o xs, v = .ref a ∧ G.H a = none ∧ F' a = none ∧ H' a = some o ∧ CeO o c xs ∧ DnA K F' xs c.mem)
def Post (K : PySem.W.Frag) (G : Bs) (F : Hp) (E : Ends) : Out → Prop
  | .nx e' => ∀ F' H' σ', R K G F' H' σ' e' → Ex F F' → E.nx σ' H'
  | .bk e' => ∀ F' H' σ', R K G F' H' σ' e' → Ex F F' → E.bk σ' H'
  | .ct e' => ∀ F' H' σ', R K G F' H' σ' e' → Ex F F' → E.ct σ' H'
  | .rt c e' => ∀ v F' H' σ', R K G F' H' σ' e' → Ex F F' → RtA K G F' H' c v → E.rt v H'
  | _ => False
def tS (K : PySem.W.Frag) (m : En → Out) : TS := fun E σ H => ∃ G F e, R K G F H σ e ∧ Post K G F E (m e)
abbrev PDS (X : Cx) (st : Stmt) (m : En → Out) : Prop := PS X st (tS X.K m)
abbrev PDs (X : Cx) (sts : List Stmt) (m : En → Out) : Prop := PSs X sts (tS X.K m)
/-- a step of a statement, its expression's outcome first -/
def onR {α : Type} (r : Rs (α × En)) (f : α → En → Out) : Out := match r with
  | .ok (a, e) => f a e
  | .ex n ds => .ex n ds
  | .no => .no
@[simp] theorem onR_ok {α : Type} (a : α) (e : En) (f : α → En → Out) : onR (.ok (a, e)) f = f a e := rfl
@[simp] theorem onR_ex {α : Type} (n : String) (ds : List D) (f : α → En → Out) : onR (.ex n ds) f = .ex n ds := rfl
@[simp] theorem onR_no {α : Type} (f : α → En → Out) : onR .no f = .no := rfl
def ioAt (e : En) (i : Nat) : Bool := match e[i]? with
  | some (some c) => c.io
  | _ => false
section
variable {X : Cx} {K : PySem.W.Frag} {G : Bs} {F F1 H H1 : Hp} {σ : L2.St} {e e1 : En} {E : Ends} {v : V} {c : Ce} {d : D} {i : Nat} {a : Addr}
theorem Post.ex {o : Out} (h : Post K G F E o) (x : Ex F F1) : Post K G F1 E o := by
  cases o with
  | nx e' => exact fun F' H' σ' r q => h F' H' σ' r (x.trans q)
  | bk e' => exact fun F' H' σ' r q => h F' H' σ' r (x.trans q)
  | ct e' => exact fun F' H' σ' r q => h F' H' σ' r (x.trans q)
  | rt c e' => exact fun v F' H' σ' r q => h v F' H' σ' r (x.trans q)
  | ex n ds => exact h
  | no => exact h
theorem onR_inv {α : Type} {r : Rs (α × En)} {f : α → En → Out} (h : Post K G F E (onR r f)) : ∃ a e', r = .ok (a, e') ∧ Post K G F E (f a e') := by
  cases r with
  | ok p => exact ⟨p.1, p.2, rfl, h⟩
  | ex n ds => exact h.elim
  | no => exact h.elim
/-- a value is stored in a slot -/
theorem R.set (r : R K G F H σ e) (hi : ioAt e i = false) (hv : HAt K G σ F H e (.v c) v) : R K G F H (σ.set i (some v)) (e.set i (some c)) := by
  have hio : ∀ c', e[i]? = some (some c') → c'.io = false := fun c' h => by
    unfold ioAt at hi
    rw [h] at hi
    exact hi
  have hlen := r.len
  -- what a slot behind the store holds
  have at2 : ∀ (j : Nat) (c' : Ce), (e.set i (some c))[j]? = some (some c') → (j = i ∧ c' = c ∧ (σ.set i (some v))[j]? = some (some v)) ∨ (j ≠ i ∧ e[j]? = some (some c') ∧ (σ.set i (some v))[j]? = σ[j]?) := fun j c' h => by
    by_cases hj : j = i
    · subst hj
      have hl : j < e.length := by
        have := (List.getElem?_eq_some_iff.mp h).1
        simpa using this
      rw [List.getElem?_set_self hl] at h
      cases h
      exact .inl ⟨rfl, rfl, List.getElem?_set_self (by omega)⟩
    · rw [List.getElem?_set_ne (Ne.symm hj)] at h
      exact .inr ⟨hj, h, List.getElem?_set_ne (Ne.symm hj)⟩
  refine ⟨r.go, r.ba, fun j c' h => ?_, fun j k c1 c2 b hjk h1 h2 o1 o2 s1 s2 => ?_, fun p hp => ?_, by simp [hlen]⟩
  · rcases at2 j c' h with ⟨rfl, rfl, e1⟩ | ⟨hj, h', e1⟩
    · refine ⟨v, e1, ?_⟩
      rcases hv with ⟨d, rfl, hd⟩ | ⟨h1, a, o, xs, rfl, h2, h3, h4, h5, h6, h7⟩
      · exact .inl ⟨d, rfl, hd⟩
      · exact .inr ⟨a, o, xs, rfl, h3, h4, h6, h7, (fun z => by rw [h1] at z; cases z), fun _ => h2⟩
    · obtain ⟨v', q1, q2⟩ := r.at_ j c' h'
      exact ⟨v', e1.trans q1, q2⟩
  · have key : ∀ (j k : Nat) (c1 c2 : Ce), j = i → c1 = c → k ≠ i → e[k]? = some (some c2) → c1.ow = true → c2.ow = true → (σ.set i (some v))[j]? = some (some (V.ref b)) → (σ.set i (some v))[j]? = some (some v) → σ[k]? ≠ some (some (V.ref b)) := by
      intro j k c1 c2 hj hc hk kh2 ko1 ko2 ks1 ksv ks2
      rw [ksv] at ks1
      rcases hv with ⟨d, q, hd⟩ | ⟨h1, a, o, xs, q, h2', h3, h4, h5, h6, h7⟩
      · rw [hc, q] at ko1
        cases ko1
      · rw [q] at ks1
        cases ks1
        exact h5 ⟨k, c2, kh2, ko2, ks2⟩
    rcases at2 j c1 h1 with ⟨e1, e2, e3⟩ | ⟨hj, h1', e1⟩
    · rcases at2 k c2 h2 with ⟨e1', _, _⟩ | ⟨hk, h2', e1'⟩
      · exact hjk (e1.trans e1'.symm)
      · rw [e1'] at s2
        exact key j k c1 c2 e1 e2 hk h2' o1 o2 s1 e3 s2
    · rcases at2 k c2 h2 with ⟨e1', e2', e3'⟩ | ⟨hk, h2', e1'⟩
      · rw [e1] at s1
        exact key k j c2 c1 e1' e2' hj h1' o2 o1 s2 e3' s1
      · rw [e1] at s1
        rw [e1'] at s2
        exact r.sep j k c1 c2 b hjk h1' h2' o1 o2 s1 s2
  · obtain ⟨h1, c', h2, h3⟩ := r.io p hp
    have hne : p.1 ≠ i := fun z => by
      rw [z] at h2
      rw [hio c' h2] at h3
      cases h3
    rw [List.getElem?_set_ne (Ne.symm hne), List.getElem?_set_ne (Ne.symm hne)]
    exact ⟨h1, c', h2, h3⟩
def sAsg (i : Nat) (m : M Ce) : En → Out := fun e => onR (m e) fun c e' => if ioAt e' i = true then .no else .nx (e'.set i (some c))
def sAsgF (i : Nat) (m : M D) : En → Out := fun e => onR (m e) fun d e' => if ioAt e' i = true then .no else .nx (e'.set i (some (.f d)))
theorem post_ite {o : Out} {b : Bool} (h : Post K G F E (if b = true then .no else o)) : b = false ∧ Post K G F E o := by
  cases b with
  | true => rw [if_pos rfl] at h; exact h.elim
  | false => rw [if_neg Bool.false_ne_true] at h; exact ⟨rfl, h⟩
variable {st : Stmt} {sts : List Stmt} {ex ey ez : Expr} {es : List Expr} {pos pos' : Pos} {x : Str}
theorem asg_ok {m : M Ce} (h : tS K (sAsg i m) E σ H) : tAsg (tN K m) (gName i) E σ H := by
  obtain ⟨G, F, e, r, hp⟩ := h
  obtain ⟨c, e1, h1, hp⟩ := onR_inv hp
  obtain ⟨h2, hp⟩ := post_ite hp
  exact ⟨G, F, e, c, e1, r, h1, fun v F' H' n hn => hp F' H' _ (n.r.set h2 (hn.hat r n)) n.go.ff⟩
theorem asgF_ok {m : M D} (h : tS K (sAsgF i m) E σ H) : tAsg (tF K m) (gName i) E σ H := by
  obtain ⟨G, F, e, r, hp⟩ := h
  obtain ⟨c, e1, h1, hp⟩ := onR_inv hp
  obtain ⟨h2, hp⟩ := post_ite hp
  exact ⟨G, F, e, c, e1, r, h1, fun v F' H' n hn => hp F' H' _ (n.r.set h2 (.inl ⟨c, rfl, hn⟩)) n.go.ff⟩
/-- x = e, x a list or a dict of one's own -/
theorem pds_set {m : M Ce} (hN : X.N.Nodup) (hi : X.N[i]? = some x) (hx : Loc X.env.scope x) (he : PN X ex m) (hs : swapsWith ex (some (.Name x pos')) pos.line X.env = pure false := by rfl) (hf : X.fn x = true ∨ X.env.scope.names.lookup x = some .local := by first | exact .inl rfl | exact .inr rfl | assumption) :
    PDS X (.Assign [.Name x pos'] ex pos) (sAsg i m) := PSimp (ps_set hN hi hx he hs hf) fun D σ H h => asg_ok h
/-- x = e, frozen data -/
theorem pds_setF {m : M D} (hN : X.N.Nodup) (hi : X.N[i]? = some x) (hx : Loc X.env.scope x) (he : PF X ex m) (hs : swapsWith ex (some (.Name x pos')) pos.line X.env = pure false := by rfl) (hf : X.fn x = true ∨ X.env.scope.names.lookup x = some .local := by first | exact .inl rfl | exact .inr rfl | assumption) :
    PDS X (.Assign [.Name x pos'] ex pos) (sAsgF i m) := PSimp (ps_set hN hi hx he hs hf) fun D σ H h => asgF_ok h
/-- one behind the other -/
def sSeq (a b : En → Out) : En → Out := fun e => match a e with
  | .nx e' => b e'
  | o => o
def sNext : En → Out := fun e => .nx e
theorem pds_nil : PDs X [] sNext := PSsimp pss_nil fun E σ H ⟨G, F, e, r, hp⟩ => hp F H σ r (Evl.Ex.refl _)
theorem seq_ok {a b : En → Out} (h : tS K (sSeq a b) E σ H) : tSeq (tS K a) (tS K b) E σ H := by
  obtain ⟨G, F, e, r, hp⟩ := h
  refine ⟨G, F, e, r, ?_⟩
  unfold sSeq at hp
  cases q : a e with
  | nx e1 =>
    rw [q] at hp
    exact fun F' H' σ' r' x => ⟨G, F', e1, r', Post.ex hp x⟩
  | bk e1 => rw [q] at hp; exact hp
  | ct e1 => rw [q] at hp; exact hp
  | rt c e1 => rw [q] at hp; exact hp
  | ex n ds => rw [q] at hp; exact hp.elim
  | no => rw [q] at hp; exact hp.elim
theorem pds_cons {a b : En → Out} (h1 : PDS X st a) (h2 : PDs X sts b) : PDs X (st :: sts) (sSeq a b) := PSsimp (pss_cons h1 h2) fun D σ H h => seq_ok h
theorem pds_one {a : En → Out} (h1 : PDS X st a) : PDs X [st] a := pss_one h1
theorem pds_doc {s : Str} {j : Nat} : PDS X (.Expr (.Constant (.str s) j pos) pos') sNext := PSimp ps_doc fun E σ H ⟨G, F, e, r, hp⟩ => hp F H σ r (Evl.Ex.refl _)
theorem pds_pass : PDS X (.Pass pos) sNext := PSimp ps_pass fun E σ H ⟨G, F, e, r, hp⟩ => hp F H σ r (Evl.Ex.refl _)
def sBreak : En → Out := fun e => .bk e
def sCont : En → Out := fun e => .ct e
theorem pds_break : PDS X (.Break pos) sBreak := PSimp ps_break fun E σ H ⟨G, F, e, r, hp⟩ => hp F H σ r (Evl.Ex.refl _)
theorem pds_cont : PDS X (.Continue pos) sCont := PSimp ps_continue fun E σ H ⟨G, F, e, r, hp⟩ => hp F H σ r (Evl.Ex.refl _)
/-- a slot's own object is frozen for good (nothing happens in the program) -/
def sFrz (i : Nat) (b : En → Out) : En → Out := fun e => match e[i]? with
  | some (some c) => if c.io = true then .no else b (e.set i (some (.f c.d)))
  | _ => .no
theorem frz_ok {b : En → Out} (h : tS K (sFrz i b) E σ H) : tS K b E σ H := by
  obtain ⟨G, F, e, r, hp⟩ := h
  unfold sFrz at hp
  cases q : e[i]? with
  | none => rw [q] at hp; exact hp.elim
  | some oc =>
    cases oc with
    | none => rw [q] at hp; exact hp.elim
    | some c =>
      rw [q] at hp
      obtain ⟨hio, hp⟩ := post_ite hp
      obtain ⟨v, h1, h2⟩ := r.at_ i c q
      have hioAt : ioAt e i = false := by unfold ioAt; rw [q]; exact hio
      have hset : ∀ (σ : L2.St), σ[i]? = some (some v) → σ.set i (some v) = σ := fun σ hσ => by
        apply List.ext_getElem?
        intro j
        by_cases hj : j = i
        · subst hj
          rw [List.getElem?_set_self (List.getElem?_eq_some_iff.mp hσ).1, hσ]
        · rw [List.getElem?_set_ne (Ne.symm hj)]
      rcases h2 with ⟨d, rfl, hd⟩ | ⟨a, o, xs, rfl, q1, q2, q3, q4, q5, q6⟩
      · have r2 := r.set (i := i) hioAt (c := .f d) (v := v) (.inl ⟨d, rfl, hd⟩)
        rw [hset σ h1] at r2
        exact ⟨G, F, _, r2, hp⟩
      · -- the slot is forgotten, the object frozen, the slot told anew
        have hcd : Dn K (upd F a o) (.ref a) c.d := by
          cases c with
          | f d => exact q3.elim
          | l p ds =>
            have q3' : o = .lst xs := q3
            subst q3'
            exact .lst upd_same (q4.mono (Evl.Ex.new q1))
          | k p t ks vs => exact .dic upd_same q3 (q4.mono (Evl.Ex.new q1))
        have hl : i < e.length := (List.getElem?_eq_some_iff.mp q).1
        -- R without slot i
        have r0 : R K G F H σ (e.set i none) := by
          have at2 : ∀ (j : Nat) (c' : Ce), (e.set i none)[j]? = some (some c') → j ≠ i ∧ e[j]? = some (some c') := fun j c' h => by
            by_cases hj : j = i
            · subst hj
              rw [List.getElem?_set_self hl] at h
              cases h
            · rw [List.getElem?_set_ne (Ne.symm hj)] at h
              exact ⟨hj, h⟩
          refine ⟨r.go, r.ba, fun j c' h => r.at_ j c' (at2 j c' h).2, fun j k c1 c2 b hjk g1 g2 o1 o2 => r.sep j k c1 c2 b hjk (at2 _ _ g1).2 (at2 _ _ g2).2 o1 o2, fun p hp => ?_, by simpa using r.len⟩
          obtain ⟨g1, c', g2, g3⟩ := r.io p hp
          have hne : p.1 ≠ i := fun z => by
            rw [z, q] at g2
            cases g2
            rw [hio] at g3
            cases g3
          exact ⟨g1, c', by rw [List.getElem?_set_ne (Ne.symm hne)]; exact g2, g3⟩
        have hnl : ¬ Lv σ (e.set i none) a := fun ⟨j, c', g1, g2, g3⟩ => by
          by_cases hj : j = i
          · subst hj
            rw [List.getElem?_set_self hl] at g1
            cases g1
          · rw [List.getElem?_set_ne (Ne.symm hj)] at g1
            exact r.sep j i c' c a hj g1 q g2 q3.ow g3 h1
        have r1 := r0.frz q1 q2 hnl (q6 hio)
        have r2 := r1.set (i := i) (c := .f c.d) (v := .ref a) (by unfold ioAt; rw [List.getElem?_set_self hl]) (.inl ⟨_, rfl, hcd⟩)
        rw [hset σ h1, List.set_set] at r2
        exact ⟨G, upd F a o, _, r2, Post.ex hp (Evl.Ex.new q1)⟩
theorem pds_frz {b : En → Out} (i : Nat) (h : PDs X sts b) : PDs X sts (sFrz i b) := PSsimp h fun D σ H h => frz_ok h
/-- an expression as a statement -/
def sDrop {α : Type} (m : M α) : En → Out := fun e => onR (m e) fun _ e' => .nx e'
theorem pds_expr {m : M Ce} (he : PN X ex m) (hs : swapsWith ex none pos.line X.env = pure false := by rfl) : PDS X (.Expr ex pos) (sDrop m) := PSimp (ps_expr he hs) fun E σ H ⟨G, F, e, r, hp⟩ => by
  obtain ⟨c, e1, h1, hp⟩ := onR_inv hp
  exact ⟨G, F, e, c, e1, r, h1, fun v F' H' n hn => hp F' H' _ n.r n.go.ff⟩
def sRet (m : M Ce) : En → Out := fun e => onR (m e) fun c e' => .rt c e'
theorem NAt.rt {e1 : En} (h : NAt K H F1 H1 c v) (r : R K G F H σ e) : RtA K G F1 H1 c v := by
  rcases h with ⟨d, rfl, h⟩ | ⟨hio, a, o, xs, rfl, h1, h2, h3, h4, h5⟩
  · exact .inl ⟨d, rfl, h⟩
  · exact .inr ⟨hio, a, o, xs, rfl, (r.new h1).2.1, h2, h3, h4, h5⟩
theorem pds_ret {m : M Ce} (he : PN X ex m) : PDS X (.Return (some ex) pos) (sRet m) := PSimp (ps_ret he) fun E σ H ⟨G, F, e, r, hp⟩ => by
  obtain ⟨c, e1, h1, hp⟩ := onR_inv hp
  exact ⟨G, F, e, c, e1, r, h1, fun v F' H' n hn => hp v F' H' σ n.r n.go.ff (hn.rt (e1 := e) r)⟩
def sRetN : En → Out := fun e => .rt (.f .none) e
theorem pds_retN : PDS X (.Return none pos) sRetN := PSimp ps_retN fun E σ H ⟨G, F, e, r, hp⟩ => hp .non F H σ r (Evl.Ex.refl _) (.inl ⟨_, rfl, .non⟩)
/-- return x, x a slot with an object of one's own -/
def sRetS (i : Nat) : En → Out := fun e => match e[i]? with
  | some (some c) => if c.io = true then .no else .rt c e
  | _ => .no
theorem pds_retS (i : Nat) (he : PE X ex (tVar i)) : PDS X (.Return (some ex) pos) (sRetS i) := PSimp (ps_ret he) fun E σ H ⟨G, F, e, r, hp⟩ => by
  unfold sRetS at hp
  cases q : e[i]? with
  | none => rw [q] at hp; exact hp.elim
  | some oc =>
    cases oc with
    | none => rw [q] at hp; exact hp.elim
    | some c =>
      rw [q] at hp
      obtain ⟨hio, hp⟩ := post_ite hp
      obtain ⟨v, h1, h2⟩ := r.at_ i c q
      refine ⟨v, h1, hp v F H σ r (Evl.Ex.refl _) ?_⟩
      rcases h2 with ⟨d, rfl, hd⟩ | ⟨a, o, xs, rfl, q1, q2, q3, q4, q5, q6⟩
      · exact .inl ⟨d, rfl, hd⟩
      · exact .inr ⟨hio, a, o, xs, rfl, q6 hio, q1, q2, q3, q4⟩
def sIf (t : M Bool) (a b : En → Out) : En → Out := fun e => onR (t e) fun c e' => if c = true then a e' else b e'
theorem pds_if {t : M Bool} {a b : En → Out} {s1 s2 : List Stmt} (ht : PTd X ex t) (ha : PDs X s1 a) (hb : PDs X s2 b) : PDS X (.If ex s1 s2 pos) (sIf t a b) := PSimp (ps_if ht ha hb) fun E σ H ⟨G, F, e, r, hp⟩ => by
  obtain ⟨c, e1, h1, hp⟩ := onR_inv hp
  refine ⟨G, F, e, c, e1, r, h1, fun F' H' n => ?_⟩
  cases c with
  | true => exact ⟨G, F', e1, n.r, Post.ex hp n.go.ff⟩
  | false => exact ⟨G, F', e1, n.r, Post.ex hp n.go.ff⟩

/-! ### a list of one's own is changed -/
theorem set_kd (h : e[i]? = some (some c)) {c' : Ce} (hk : c'.kd = c.kd) : (e.set i (some c')).map (Option.map Ce.kd) = e.map (Option.map Ce.kd) := by
  apply List.ext_getElem?
  intro j
  rw [List.getElem?_map, List.getElem?_map]
  by_cases hj : j = i
  · subst hj
    rw [List.getElem?_set_self (List.getElem?_eq_some_iff.mp h).1, h]
    simp [hk]
  · rw [List.getElem?_set_ne (Ne.symm hj)]
/-- the object of slot i is written: its cell is c' from now on -/
theorem R.wr (r : R K G F H σ e) (h : e[i]? = some (some c)) (hs : σ[i]? = some (some (.ref a))) (ho : c.ow = true) {c' : Ce} (hk : c'.kd = c.kd) {o' : HO} {xs' : List V} (hc : CeO o' c' xs') (hm : DnA K F xs' c'.mem) :
    Nx K G σ F H e F (upd H a o') (e.set i (some c')) := by
  have hl : i < e.length := (List.getElem?_eq_some_iff.mp h).1
  obtain ⟨v, h1, h2⟩ := r.at_ i c h
  rw [hs] at h1
  cases h1
  obtain ⟨a', o, xs, q, q1, q2, q3, q4, q5, q6⟩ := h2.own ho
  cases q
  have lv : Lv σ e a := ⟨i, c, h, ho, hs⟩
  have sh := set_kd h hk
  obtain ⟨k1, k2⟩ := kd_ow hk
  have go : Go F H F (upd H a o') (Lv σ e) := Go.wr r.fh q1 lv (by rw [q2]; rfl)
  have at2 : ∀ (j : Nat) (c2 : Ce), (e.set i (some c'))[j]? = some (some c2) → (j = i ∧ c2 = c') ∨ (j ≠ i ∧ e[j]? = some (some c2)) := fun j c2 h => by
    by_cases hj : j = i
    · subst hj
      rw [List.getElem?_set_self hl] at h
      cases h
      exact .inl ⟨rfl, rfl⟩
    · rw [List.getElem?_set_ne (Ne.symm hj)] at h
      exact .inr ⟨hj, h⟩
  refine ⟨⟨?_, r.ba, fun j c2 hj => ?_, fun j k c1 c2 b hjk h1 h2 o1 o2 s1 => ?_, fun p hp => ?_, by simpa using r.len⟩, go, sh⟩
  · refine ⟨r.go.ff, fun b u hb hn => ?_, go.fh, fun b hb1 hb2 => ?_⟩
    · have hba : b ≠ a := fun z => by
        subst z
        cases hci : c.io with
        | true => exact hn ⟨i, q5 hci⟩
        | false =>
          rw [q6 hci] at hb
          cases hb
      rw [upd_ne hba]
      exact r.go.hh b u hb hn
    · obtain ⟨z1, z2⟩ := r.go.st b hb1 hb2
      refine ⟨z1, ?_⟩
      by_cases hba : b = a
      · subst hba; rw [upd_same]; rfl
      · rw [upd_ne hba]; exact z2
  · rcases at2 j c2 hj with ⟨rfl, rfl⟩ | ⟨hne, hj⟩
    · exact ⟨_, hs, .inr ⟨a, o', xs', rfl, q1, upd_same, hc, hm, fun z => q5 (by rw [← k2]; exact z), fun z => q6 (by rw [← k2]; exact z)⟩⟩
    · obtain ⟨w, g1, g2⟩ := r.at_ j c2 hj
      refine ⟨w, g1, ?_⟩
      rcases g2 with g2 | ⟨b, u, ys, rfl, z1, z2, z3, z4, z5, z6⟩
      · exact .inl g2
      · have hba : b ≠ a := fun z => by
          subst z
          exact r.sep j i c2 c b hne hj h z3.ow ho g1 hs
        exact .inr ⟨b, u, ys, rfl, z1, by rw [upd_ne hba]; exact z2, z3, z4, z5, z6⟩
  · obtain ⟨d1, g1, w1⟩ := sh_at sh.symm h1
    obtain ⟨d2, g2, w2⟩ := sh_at sh.symm h2
    exact r.sep j k d1 d2 b hjk g1 g2 (by rw [(kd_ow w1).1]; exact o1) (by rw [(kd_ow w2).1]; exact o2) s1
  · obtain ⟨h1, c2, h2, h3⟩ := r.io p hp
    obtain ⟨d2, g2, w2⟩ := sh_at sh h2
    exact ⟨h1, d2, g2, by rw [(kd_ow w2).2]; exact h3⟩
/-- x.append(e) -/
def sApp (i : Nat) (m : M D) : En → Out := fun e => match e[i]? with
  | some (some (.l _ _)) => onR (m e) fun d e' => (match e'[i]? with
    | some (some (.l p ds)) => if ds.length < 16000000 then .nx (e'.set i (some (.l p (ds ++ [d])))) else .no
    | _ => .no)
  | _ => .no
theorem small_line {n : Nat} (h : n < 16000000) : n < sizeLine := by rw [sizeLine_eq]; omega
theorem lst_at (h : e[i]? = some (some c)) (r : R K G F H σ e) {p : Bool} {ds : List D} (hc : c = .l p ds) : ∃ a xs, σ[i]? = some (some (.ref a)) ∧ F a = none ∧ H a = some (.lst xs) ∧ DnA K F xs ds := by
  subst hc
  obtain ⟨v0, s0, a0⟩ := r.at_ i _ h
  obtain ⟨a, o, xs, rfl, z1, z2, z3, z4, _⟩ := a0.own rfl
  have z3' : o = .lst xs := z3
  subst z3'
  exact ⟨a, xs, s0, z1, z2, z4⟩
theorem app_ok {m : M D} (h : tS K (sApp i m) E σ H) : tDrop (tBM K "list" rAppend (tVar i) (tCons (tF K m) tNil)) E σ H := by
  obtain ⟨G, F, e, r, hp⟩ := h
  unfold sApp at hp
  split at hp
  · rename_i p0 ds0 g0
    obtain ⟨d, e1, h1, hp⟩ := onR_inv hp
    obtain ⟨a, xs, s0, z1, z2, z4⟩ := lst_at g0 r rfl
    refine ⟨.ref a, s0, .inl ⟨rfl, _, .inl (.inl z2)⟩, G, F, e, d, e1, r, h1, fun v F1 H1 n1 hd => ?_⟩
    split at hp
    · rename_i p ds q
      by_cases hz : ds.length < 16000000
      · rw [if_pos hz] at hp
        obtain ⟨a', xs', s1, y1, y2, y4⟩ := lst_at q n1.r rfl
        rw [s0] at s1
        cases s1
        refine ⟨a, xs', v, rfl, rfl, y2, ?_, ?_⟩
        · rw [y4.len]; exact small_line hz
        · have n2 := n1.r.wr (c' := .l p (ds ++ [d])) q s0 rfl (by cases p <;> rfl) (o' := .lst (xs' ++ [v])) (xs' := xs' ++ [v]) rfl (y4.app (.cons hd .nil))
          exact hp F1 _ σ n2.r n1.go.ff
      · rw [if_neg hz] at hp
        exact hp.elim
    · exact hp.elim
  · exact hp.elim
end
end DL

namespace DL
open PySem L2 PyProof.Rows
section
variable {X : Cx} {K : PySem.W.Frag} {G : Bs} {F F1 H H1 : Hp} {σ : L2.St} {e e1 : En} {E : Ends} {v : V} {c : Ce} {d : D} {i : Nat} {a : Addr}
variable {st : Stmt} {sts : List Stmt} {ex ey ez tg : Expr} {es : List Expr} {pos pos' apos cpos : Pos} {x : Str}
theorem pds_app {m : M D} (ho : PE X ex (tVar i)) (he : PF X ey m) (hbase : attributeBase ex "append" X.env (eval ex X.env) = eval ex X.env := by rfl)
    (hfew : ((backTo cpos (starEach [ey] X.env)).all (fun x => !x.1) && (backToKw cpos (keywordEach [] X.env)).all (fun x => x.1.isSome) && decide (([ey] : List Expr).length + ([] : List Keyword).length + (if ([] : List Keyword).isEmpty then 0 else 1) < 30)) = true := by rfl)
    (hline : (apos.endLine == cpos.line) = true := by rfl) (hs : starEach [ey] X.env = (false, eval ey X.env) :: starEach [] X.env := by rfl) (hplain : (backTo cpos (starEach ([] : List Expr) X.env)).any (·.1) = false := by rfl)
    (hsw : swapsWith (.Call (.Attribute ex "append" apos) [ey] [] cpos) none pos.line X.env = pure false := by rfl) : PDS X (.Expr (.Call (.Attribute ex "append" apos) [ey] [] cpos) pos) (sApp i m) :=
  PSimp (ps_expr (pe_bm PySem.F.plainAttrs_list PySem.F.slot_list_append PySem.F.type_list_append mt_append ho (pa_cons he pa_nil hs) hbase hfew hline hs hplain) hsw) fun D σ H h => app_ok h

/-! ### targets -/
abbrev Tg := D → En → Rs En
def tgN (i : Nat) : Tg := fun d e => if ioAt e i = true then .no else .ok (e.set i (some (.f d)))
def tgAll : List Tg → List D → En → Rs En
  | [], [], e => .ok e
  | t :: ts, d :: ds, e => (t d e).bind (tgAll ts ds)
  | _, _, _ => .no
def tgT (ts : List Tg) : Tg := fun d e => match d with
  | .tuple ds => tgAll ts ds e
  | .tupW ds => tgAll ts ds e
  | _ => .no
/-- slots besides these are as they were -/
def Chg (is : List Nat) (σ σ' : L2.St) : Prop := σ'.length = σ.length ∧ ∀ j, j ∉ is → σ'[j]? = σ[j]?
def tG (K : PySem.W.Frag) (t : Tg) (is : List Nat) : TG := fun v σ H Q => ∃ G F e d e', R K G F H σ e ∧ Dn K F v d ∧ t d e = .ok e' ∧ ∀ σ', R K G F H σ' e' → Chg is σ σ' → Q σ' H
def tGs (K : PySem.W.Frag) (ts : List Tg) (is : List Nat) : TGs := fun vs σ H Q => ∃ G F e ds e', R K G F H σ e ∧ DnA K F vs ds ∧ tgAll ts ds e = .ok e' ∧ ∀ σ', R K G F H σ' e' → Chg is σ σ' → Q σ' H
abbrev PGd (X : Cx) (tg : Expr) (t : Tg) (is : List Nat) : Prop := PG X tg (tG X.K t is)
abbrev PGds (X : Cx) (tgs : List Expr) (ts : List Tg) (is : List Nat) : Prop := PGs X tgs (tGs X.K ts is)
theorem PGsimp {tgs : List Expr} {t t' : TGs} (h : PGs X tgs t) (hi : ∀ v σ H Q, t' v σ H Q → t v σ H Q) : PGs X tgs t' := ⟨fun pins s σ H v u Q I r q => h.run pins s σ H v u Q I r (hi v σ H Q q)⟩
theorem ite_ok2 {α : Type} {b : Bool} {r : Rs α} {y : α} (h : (if b = true then .no else r) = .ok y) : b = false ∧ r = .ok y := by
  cases b with
  | true => rw [if_pos rfl] at h; cases h
  | false => rw [if_neg Bool.false_ne_true] at h; exact ⟨rfl, h⟩
theorem chg_set {i : Nat} {o : Option V} : Chg [i] σ (σ.set i o) := ⟨by simp, fun j hj => List.getElem?_set_ne (by simpa using fun z => hj (by simp [z]))⟩
theorem Chg.trans {is js : List Nat} {σ1 σ2 : L2.St} (h : Chg is σ σ1) (k : Chg js σ1 σ2) : Chg (is ++ js) σ σ2 := ⟨k.1.trans h.1, fun j hj => by
  rw [List.mem_append, not_or] at hj
  exact (k.2 j hj.2).trans (h.2 j hj.1)⟩
theorem pgd_name (hN : X.N.Nodup) (hi : X.N[i]? = some x) (hx : Loc X.env.scope x) (hf : X.fn x = true ∨ X.env.scope.names.lookup x = some .local := by first | exact .inl rfl | exact .inr rfl | assumption) : PGd X (.Name x pos) (tgN i) [i] :=
  PGimp (pg_name hN hi hx hf) fun v σ H Q ⟨G, F, e, d, e', r, hd, ht, q⟩ => by
    obtain ⟨h1, h2⟩ := ite_ok2 ht
    cases h2
    exact q _ (r.set h1 (.inl ⟨d, rfl, hd⟩)) chg_set
theorem pgds_nil : PGds X [] [] [] := PGsimp pgs_nil fun v σ H Q ⟨G, F, e, ds, e', r, hd, ht, q⟩ => by
  cases hd with
  | nil => cases ht; exact ⟨rfl, q _ r ⟨rfl, fun _ _ => rfl⟩⟩
  | cons _ _ => cases ht
theorem pgds_cons {tgs : List Expr} {t : Tg} {ts : List Tg} {is js : List Nat} (h1 : PGd X tg t is) (h2 : PGds X tgs ts js) (hs : (assignEach (tg :: tgs) X.env).map (·.2) = assign tg X.env :: (assignEach tgs X.env).map (·.2) := by rfl) : PGds X (tg :: tgs) (t :: ts) (is ++ js) :=
  PGsimp (pgs_cons h1 h2 hs) fun v σ H Q ⟨G, F, e, ds, e', r, hd, ht, q⟩ => by
    cases hd with
    | nil => cases ht
    | cons hd ha =>
      obtain ⟨e1, h3, h4⟩ := Rs.bind_eq ht
      exact ⟨_, _, rfl, G, F, e, _, e1, r, hd, h3, fun σ' r' c1 => ⟨G, F, e1, _, e', r', ha, h4, fun σ2 r2 c2 => q σ2 r2 (c1.trans c2)⟩⟩
theorem pgd_tup {tgs : List Expr} {ts : List Tg} {is : List Nat} {k n : Nat} (hc : X.calm = true) (h : PGds X tgs ts is) (hl : ts.length = n) (hn : (assignEach tgs X.env).length = n := by rfl) (hst : (assignEach tgs X.env).findIdx? (·.1) = none := by rfl) : PGd X (.Tuple tgs k pos) (tgT ts) is :=
  PGimp (pg_tup hc h hn hst) fun v σ H Q ⟨G, F, e, d, e', r, hd, ht, q⟩ => by
    unfold tgT at ht
    split at ht
    · rename_i ds
      obtain ⟨a, xs, rfl, h1, h2⟩ := hd.tuple_inv
      refine ⟨a, xs, rfl, Evl.ex_t r.fh h1, ?_, G, F, e, ds, e', r, h2, ht, q⟩
      have key : ∀ (ts : List Tg) (ds : List D) (e : En), tgAll ts ds e = .ok e' → ts.length = ds.length := by
        intro ts
        induction ts with
        | nil => intro ds e h; cases ds with
          | nil => rfl
          | cons d ds => cases h
        | cons t ts ih => intro ds e h; cases ds with
          | nil => cases h
          | cons d ds =>
            obtain ⟨e1, _, h4⟩ := Rs.bind_eq h
            rw [List.length_cons, List.length_cons, ih ds e1 h4]
      rw [h2.len, ← key ts ds e ht, hl]
    · rename_i ds
      obtain ⟨a, xs, rfl, h1, h2⟩ := hd.tupW_inv
      refine ⟨a, xs, rfl, Evl.ex_t r.fh h1, ?_, G, F, e, ds, e', r, h2, ht, q⟩
      have key : ∀ (ts : List Tg) (ds : List D) (e : En), tgAll ts ds e = .ok e' → ts.length = ds.length := by
        intro ts
        induction ts with
        | nil => intro ds e h; cases ds with
          | nil => rfl
          | cons d ds => cases h
        | cons t ts ih => intro ds e h; cases ds with
          | nil => cases h
          | cons d ds =>
            obtain ⟨e1, _, h4⟩ := Rs.bind_eq h
            rw [List.length_cons, List.length_cons, ih ds e1 h4]
      rw [h2.len, ← key ts ds e ht, hl]
    · cases ht
/-- what a target's rule does to the environment -/
def frozenAt (e : En) (i : Nat) : Bool := match e[i]? with
  | some (some c) => !c.ow
  | _ => true
structure TgOk (t : Tg) (is : List Nat) : Prop where
  ln : ∀ d e e', t d e = .ok e' → e'.length = e.length
  ne : ∀ d e e', t d e = .ok e' → ∀ j, j ∉ is → e'[j]? = e[j]?
  fz : ∀ d e e', t d e = .ok e' → ∀ j, (j ∈ is ∨ frozenAt e j = true) → frozenAt e' j = true
theorem tgOk_n (i : Nat) : TgOk (tgN i) [i] := by
  refine ⟨fun d e e' h => ?_, fun d e e' h j hj => ?_, fun d e e' h j hj => ?_⟩
  · obtain ⟨_, h⟩ := ite_ok2 h
    cases h
    simp
  · obtain ⟨_, h⟩ := ite_ok2 h
    cases h
    exact List.getElem?_set_ne (by simpa using fun z => hj (by simp [z]))
  · obtain ⟨_, h⟩ := ite_ok2 h
    cases h
    by_cases hji : j = i
    · subst hji
      unfold frozenAt
      by_cases hl : j < e.length
      · rw [List.getElem?_set_self hl]; rfl
      · rw [List.getElem?_eq_none (by simpa using Nat.le_of_not_lt hl)]
    · rcases hj with hj | hj
      · exact absurd (by simpa using hj) hji
      · unfold frozenAt at hj ⊢
        rw [List.getElem?_set_ne (Ne.symm hji)]
        exact hj
inductive TgsOk : List Tg → List Nat → Prop where
  | nil : TgsOk [] []
  | cons {t : Tg} {ts : List Tg} {is js : List Nat} : TgOk t is → TgsOk ts js → TgsOk (t :: ts) (is ++ js)
theorem TgsOk.all : ∀ {ts : List Tg} {is : List Nat}, TgsOk ts is → ∀ ds e e', tgAll ts ds e = .ok e' → e'.length = e.length ∧ (∀ j, j ∉ is → e'[j]? = e[j]?) ∧ ∀ j, (j ∈ is ∨ frozenAt e j = true) → frozenAt e' j = true
  | _, _, .nil, ds, e, e', h => by
    cases ds with
    | nil => cases h; exact ⟨rfl, fun _ _ => rfl, fun j hj => by simpa using hj⟩
    | cons d ds => cases h
  | _, _, .cons t ts, ds, e, e', h => by
    cases ds with
    | nil => cases h
    | cons d ds =>
      obtain ⟨e1, h1, h2⟩ := Rs.bind_eq h
      obtain ⟨g1, g2, g3⟩ := TgsOk.all ts ds e1 e' h2
      refine ⟨g1.trans (t.ln d e e1 h1), fun j hj => ?_, fun j hj => ?_⟩
      · rw [List.mem_append, not_or] at hj
        exact (g2 j hj.2).trans (t.ne d e e1 h1 j hj.1)
      · rw [List.mem_append] at hj
        rcases hj with (hj | hj) | hj
        · exact g3 j (.inr (t.fz d e e1 h1 j (.inl hj)))
        · exact g3 j (.inl hj)
        · exact g3 j (.inr (t.fz d e e1 h1 j (.inr hj)))
theorem tgOk_t {ts : List Tg} {is : List Nat} (h : TgsOk ts is) : TgOk (tgT ts) is := by
  have key : ∀ d e e', tgT ts d e = .ok e' → ∃ ds, tgAll ts ds e = .ok e' := fun d e e' h => by
    unfold tgT at h
    split at h
    · exact ⟨_, h⟩
    · exact ⟨_, h⟩
    · cases h
  exact ⟨fun d e e' q => let ⟨ds, q⟩ := key d e e' q; (h.all ds e e' q).1, fun d e e' q => let ⟨ds, q⟩ := key d e e' q; (h.all ds e e' q).2.1, fun d e e' q => let ⟨ds, q⟩ := key d e e' q; (h.all ds e e' q).2.2⟩
/-- target = value, by a target's rule -/
def sTgt (t : Tg) (m : M D) : En → Out := fun e => onR (m e) fun d e' => match t d e' with
  | .ok e2 => .nx e2
  | _ => .no
theorem pds_asg {t : Tg} {is : List Nat} {m : M D} (he : PF X ex m) (hg : PGd X tg t is) (hs : swapsWithSole [tg] ex pos.line X.env = pure false := by rfl) (hw : swappedStores [tg] ex X.env = pure none := by rfl)
    (h1 : (assignEach [tg] X.env).map (·.2) = [assign tg X.env] := by rfl) : PDS X (.Assign [tg] ex pos) (sTgt t m) := PSimp (ps_asg he hg hs hw h1) fun E σ H ⟨G, F, e, r, hp⟩ => by
  obtain ⟨d, e1, h1, hp⟩ := onR_inv hp
  split at hp
  · rename_i e2 h2
    exact ⟨G, F, e, d, e1, r, h1, fun v F' H' n hd => ⟨G, F', e1, d, e2, n.r, hd, h2, fun σ' r' _ => hp F' H' σ' r' n.go.ff⟩⟩
  · exact hp.elim
/-- x, y = a, b -/
def sPar (i j : Nat) (m : M (List D)) : En → Out := fun e => onR (m e) fun ds e' => match ds with
  | [d1, d2] => if (ioAt e' i || ioAt e' j) = true then .no else .nx ((e'.set i (some (.f d1))).set j (some (.f d2)))
  | _ => .no
theorem ioAt_set {d : D} {i j : Nat} (h : ioAt e j = false) : ioAt (e.set i (some (.f d))) j = false := by
  unfold ioAt at h ⊢
  by_cases hj : j = i
  · subst hj
    by_cases hl : j < e.length
    · rw [List.getElem?_set_self hl]; rfl
    · rw [List.getElem?_eq_none (by simpa using Nat.le_of_not_lt hl)]
  · rw [List.getElem?_set_ne (Ne.symm hj)]; exact h
theorem pds_par {i j : Nat} {x y : Str} {px py pt : Pos} {kt k2 : Nat} {pt2 : Pos} {m : M (List D)} (hc : X.calm = true) (hN : X.N.Nodup) (hi : X.N[i]? = some x) (hj : X.N[j]? = some y) (hij : i ≠ j)
    (hx : X.env.scope.names.lookup x = some .local) (hy : X.env.scope.names.lookup y = some .local) (ha : PAd X [ex, ey] m)
    (hw : swappedStores [.Tuple [.Name x px, .Name y py] kt pt] (.Tuple [ex, ey] k2 pt2) X.env = pure (some [x, y]))
    (hs : swapsWithSole [.Tuple [.Name x px, .Name y py] kt pt] (.Tuple [ex, ey] k2 pt2) pos.line X.env = pure false := by rfl) : PDS X (.Assign [.Tuple [.Name x px, .Name y py] kt pt] (.Tuple [ex, ey] k2 pt2) pos) (sPar i j m) :=
  PSimp (ps_par hc hN hi hj hij hx hy ha hw hs) fun E σ H ⟨G, F, e, r, hp⟩ => by
    obtain ⟨ds, e1, h1, hp⟩ := onR_inv hp
    split at hp
    · rename_i d1 d2
      obtain ⟨h2, hp⟩ := post_ite hp
      obtain ⟨h3, h4⟩ := Bool.or_eq_false_iff.mp h2
      refine ⟨G, F, e, _, e1, r, h1, fun vs F' H' n hd => ?_⟩
      cases hd with
      | cons g1 t =>
        cases t with
        | cons g2 t =>
          cases t
          refine ⟨_, _, rfl, hp F' H' _ ?_ n.go.ff⟩
          exact (n.r.set h3 (.inl ⟨d1, rfl, g1⟩)).set (ioAt_set h4) (.inl ⟨d2, rfl, g2⟩)
    · exact hp.elim
def sPar3 (i j k : Nat) (m : M (List D)) : En → Out := fun e => onR (m e) fun ds e' => match ds with
  | [d1, d2, d3] => if (ioAt e' i || (ioAt e' j || ioAt e' k)) = true then .no else .nx (((e'.set i (some (.f d1))).set j (some (.f d2))).set k (some (.f d3)))
  | _ => .no
/-- x op= e -/
def sAug (g : D → D → Rs Ce) (i : Nat) (m : M D) : En → Out := fun e => match e[i]? with
  | some (some (.f dx)) => onR (m e) fun d e' => (match g dx d with
    | .ok (.f dz) => .nx (e'.set i (some (.f dz)))
    | _ => .no)
  | _ => .no
theorem pds_aug {op : Operator} {r : R2} {g : D → D → Rs Ce} {m : M D} (hN : X.N.Nodup) (hi : X.N[i]? = some x) (hx : Loc X.env.scope x) (he : PF X ex m) (ho : OpR X (inplaceOp op) r) (hsnd : Snd2 X.K r g) (hf : X.fn x = true ∨ X.env.scope.names.lookup x = some .local := by first | exact .inl rfl | exact .inr rfl | assumption) :
    PDS X (.AugAssign (.Name x pos') op ex pos) (sAug g i m) := PSimp (ps_aug (ti := r) hN hi hx he ho hf) fun E σ H ⟨G, F, e, rr, hp⟩ => by
  unfold sAug at hp
  split at hp
  · rename_i dx q
    obtain ⟨d, e1, h1, hp⟩ := onR_inv hp
    obtain ⟨w, s0, a0⟩ := rr.at_ i _ q
    refine ⟨w, s0, G, F, e, d, e1, rr, h1, fun v F1 H1 n hd => ?_⟩
    split at hp
    · rename_i dz hg
      refine hsnd F1 H1 w v dx d _ _ n.r.fh (.inl (n.dn a0.fz)) (.inl hd) hg fun z F2 H2 go nat => ?_
      have n2 := n.r.step go
      refine hp F2 H2 _ (n2.r.set ?_ (.inl ⟨dz, rfl, nat.fz⟩)) (n.go.ff.trans go.ff)
      -- the slot holds frozen data still
      obtain ⟨c', g1, g2⟩ := sh_at n.sh q
      unfold ioAt
      rw [g1]
      show c'.io = false
      rw [(kd_ow g2).2]
      rfl
    · exact hp.elim
  · exact hp.elim

/-! ### for -/
/-- what the walk J yields: these data, whatever grows meanwhile -/
def Wk (K : PySem.W.Frag) (J : It) (F : Hp) (ds : List D) : Prop :=
  ∀ (i : Nat) (F2 H2 : Hp), Ex F F2 → Ex F2 H2 → (∀ d, ds[i]? = some d → J.go i H2 ∧ ∀ x H3, J.yld i H2 x H3 → ∃ F3, Go F2 H2 F3 H3 noA ∧ Dn K F3 x d) ∧ (ds[i]? = none → J.stop i H2)
def tI (K : PySem.W.Frag) (m : M (List D)) : TI := fun σ H R' => ∃ G F e ds e', R K G F H σ e ∧ m e = .ok (ds, e') ∧ ∀ J F' H', Nx K G σ F H e F' H' e' → Wk K J F' ds → R' J H'
abbrev PId (X : Cx) (tg iter : Expr) (m : M (List D)) : Prop := PI X tg iter (tI X.K m)
theorem PIimp {t t' : TI} (h : PI X tg ex t) (hi : ∀ σ H Q, t' σ H Q → t σ H Q) : PI X tg ex t' := ⟨fun pins s σ H Q I q => h.run pins s σ H Q I (hi σ H Q q)⟩
def mSeq (m : M D) : M (List D) := fun e => (m e).bind fun p => match p.1 with
  | .list ds => .ok (ds, p.2)
  | .ro ds => .ok (ds, p.2)
  | _ => .no
def mSeqT (m : M D) : M (List D) := fun e => (m e).bind fun p => match p.1 with
  | .tuple ds => .ok (ds, p.2)
  | _ => .no
theorem wk_list {xs : List V} {ds : List D} (h : SqL K F a xs) (hd : DnA K F xs ds) (inj : ∀ (H : Hp) ys, Ex F H → SqL K H a ys → ys = xs) : Wk K (Itl K a) F ds := fun i F2 H2 x1 x2 => by
  have hx := x1.trans x2
  refine ⟨fun d hi => ?_, fun hi => ?_⟩
  · obtain ⟨v, h1, h2⟩ := hd.get hi
    refine ⟨⟨xs, v, Evl.ex_l hx h, h1⟩, fun x H3 y => ?_⟩
    obtain ⟨rfl, y⟩ := y
    have := y xs (Evl.ex_l hx h)
    rw [h1] at this
    cases this
    exact ⟨F2, Go.refl x2, h2.mono x1⟩
  · exact ⟨xs, Evl.ex_l hx h, by rw [hd.len]; exact List.getElem?_eq_none_iff.mp hi⟩
/-- over a list that is frozen -/
theorem pid_list {m : M D} (h : PF X ex m) : PId X tg ex (mSeq m) := PIimp (pi_list h) fun σ H Q ⟨G, F, e, ds, e', r, hm, q⟩ => by
  obtain ⟨d, e1, h1, hm⟩ := bind_ok2 hm
  simp only at hm
  have key : ∀ v F' H', Nx X.K G σ F H e F' H' e1 → e' = e1 → (∃ a xs, v = V.ref a ∧ SqL X.K F' a xs ∧ DnA X.K F' xs ds) → ∃ a, v = V.ref a ∧ (∃ xs, SqL X.K H' a xs) ∧ Q (Itl X.K a) H' := fun v F' H' n he ⟨a, xs, hv, hl, hd⟩ => by
    subst he
    refine ⟨a, hv, ⟨xs, Evl.ex_l n.r.fh hl⟩, q _ F' H' n ?_⟩
    intro i F2 H2 x1 x2
    have hx := x1.trans x2
    refine ⟨fun d hi => ?_, fun hi => ?_⟩
    · obtain ⟨w, h1, h2⟩ := hd.get hi
      refine ⟨⟨xs, w, Evl.ex_l hx hl, h1⟩, fun x H3 y => ?_⟩
      obtain ⟨rfl, y⟩ := y
      have := y xs (Evl.ex_l hx hl)
      rw [h1] at this
      cases this
      exact ⟨F2, Go.refl x2, h2.mono x1⟩
    · exact ⟨xs, Evl.ex_l hx hl, by rw [hd.len]; exact List.getElem?_eq_none_iff.mp hi⟩
  split at hm
  · cases hm
    refine ⟨G, F, e, _, _, r, h1, fun v F' H' n hn => key v F' H' n rfl ?_⟩
    obtain ⟨a, xs, q1, q2, q3⟩ := hn.list_inv
    exact ⟨a, xs, q1, SqL.of q2, q3⟩
  · cases hm
    exact ⟨G, F, e, _, _, r, h1, fun v F' H' n hn => key v F' H' n rfl hn.ro_inv⟩
  · cases hm
theorem pid_tup {m : M D} (h : PF X ex m) : PId X tg ex (mSeqT m) := PIimp (pi_tup h) fun σ H Q ⟨G, F, e, ds, e', r, hm, q⟩ => by
  obtain ⟨d, e1, h1, hm⟩ := bind_ok2 hm
  simp only at hm
  split at hm
  · cases hm
    refine ⟨G, F, e, _, _, r, h1, fun v F' H' n hn => ?_⟩
    obtain ⟨a, xs, hv, hl, hd⟩ := hn.tuple_inv
    refine ⟨a, hv, ⟨xs, Evl.ex_t n.r.fh hl⟩, q _ F' H' n ?_⟩
    intro i F2 H2 x1 x2
    have hx := x1.trans x2
    refine ⟨fun d hi => ?_, fun hi => ?_⟩
    · obtain ⟨w, h1, h2⟩ := hd.get hi
      refine ⟨⟨xs, w, Evl.ex_t hx hl, h1⟩, fun x H3 y => ?_⟩
      obtain ⟨rfl, y⟩ := y
      have := y xs (Evl.ex_t hx hl)
      rw [h1] at this
      cases this
      exact ⟨F2, Go.refl x2, h2.mono x1⟩
    · exact ⟨xs, Evl.ex_t hx hl, by rw [hd.len]; exact List.getElem?_eq_none_iff.mp hi⟩
  · cases hm
/-- lo, lo + 1, .. -/
def rgD (lo : Int) : Nat → List D
  | 0 => []
  | n + 1 => .int lo :: rgD (lo + 1) n
theorem rgD_get : ∀ (n : Nat) (lo : Int) (i : Nat), i < n → (rgD lo n)[i]? = some (.int (lo + i))
  | 0, _, _, h => absurd h (Nat.not_lt_zero _)
  | n + 1, lo, 0, _ => by simp [rgD]
  | n + 1, lo, i + 1, h => by
    rw [rgD, List.getElem?_cons_succ, rgD_get n (lo + 1) i (by omega)]
    congr 2
    omega
theorem rgD_len : ∀ (n : Nat) (lo : Int), (rgD lo n).length = n
  | 0, _ => rfl
  | n + 1, lo => by rw [rgD, List.length_cons, rgD_len n]
theorem wk_rng (lo : Int) (n : Nat) : Wk K (Itr lo n) F (rgD lo n) := fun i F2 H2 x1 x2 => by
  refine ⟨fun d hi => ?_, fun hi => ?_⟩
  · have hl : i < n := by
      have := (List.getElem?_eq_some_iff.mp hi).1
      rwa [rgD_len] at this
    refine ⟨hl, fun x H3 y => ?_⟩
    obtain ⟨rfl, rfl⟩ := y
    rw [rgD_get n lo i hl] at hi
    cases hi
    exact ⟨F2, Go.refl x2, .int _⟩
  · have := List.getElem?_eq_none_iff.mp hi
    rw [rgD_len] at this
    exact this
def mRng1 (ma : M (List D)) : M (List D) := fun e => (ma e).bind fun p => match p.1 with
  | [.int n] => if -(2 ^ 62) ≤ n ∧ n < 2 ^ 62 then .ok (rgD 0 n.toNat, p.2) else .no
  | _ => .no
def mRng2 (ma : M (List D)) : M (List D) := fun e => (ma e).bind fun p => match p.1 with
  | [.int lo, .int n] => if -(2 ^ 62) ≤ lo ∧ lo < 2 ^ 62 ∧ -(2 ^ 62) ≤ n ∧ n < 2 ^ 62 then .ok (rgD lo (n - lo).toNat, p.2) else .no
  | _ => .no
theorem pid_rng1 {p : Pos} {ma : M (List D)} (hg : Gl X "range") (hm : X.mg "range" = none) (ha : PAd X [ex] ma) (hs : starEach [ex] X.env = [(false, eval ex X.env)] := by rfl) : PId X tg (.Call (.Name "range" p) [ex] [] pos) (mRng1 ma) :=
  PIimp (pi_range1 hg hm ha hs) fun σ H Q ⟨G, F, e, ds, e', r, hm, q⟩ => by
    obtain ⟨d, e1, h1, hm⟩ := bind_ok2 hm
    simp only at hm
    split at hm
    · rename_i n
      obtain ⟨hz, hm⟩ := ite_ok hm
      cases hm
      refine ⟨G, F, e, _, _, r, h1, fun vs F' H' n' hd => ?_⟩
      cases hd with
      | cons g t =>
        cases t
        rw [g.int_inv]
        exact ⟨n, rfl, hz.1, hz.2, q _ F' H' n' (wk_rng 0 n.toNat)⟩
    · cases hm
theorem pid_rng2 {p : Pos} {ma : M (List D)} (hg : Gl X "range") (hm : X.mg "range" = none) (ha : PAd X [ex, ey] ma) (hs : starEach [ex, ey] X.env = [(false, eval ex X.env), (false, eval ey X.env)] := by rfl) (hs2 : starEach [ey] X.env = [(false, eval ey X.env)] := by rfl) : PId X tg (.Call (.Name "range" p) [ex, ey] [] pos) (mRng2 ma) :=
  PIimp (pi_range2 hg hm ha hs hs2) fun σ H Q ⟨G, F, e, ds, e', r, hm, q⟩ => by
    obtain ⟨d, e1, h1, hm⟩ := bind_ok2 hm
    simp only at hm
    split at hm
    · rename_i lo n
      obtain ⟨hz, hm⟩ := ite_ok hm
      cases hm
      refine ⟨G, F, e, _, _, r, h1, fun vs F' H' n' hd => ?_⟩
      cases hd with
      | cons g t =>
        cases t with
        | cons g2 t =>
          cases t
          rw [g.int_inv, g2.int_inv]
          exact ⟨lo, n, rfl, hz, q _ F' H' n' (wk_rng lo _)⟩
    · cases hm
def loopL (t : Tg) (b : En → Out) : List D → En → Out
  | [], e => .nx e
  | d :: ds, e => match t d e with
    | .ok e1 => (match b e1 with
      | .nx e2 => loopL t b ds e2
      | .ct e2 => loopL t b ds e2
      | .bk e2 => .nx e2
      | o => o)
    | _ => .no
def sFor (m : M (List D)) (t : Tg) (b : En → Out) : En → Out := fun e => onR (m e) fun ds e' => loopL t b ds e'
theorem for_ok {m : M (List D)} {t : Tg} {is : List Nat} {b : En → Out} (h : tS K (sFor m t b) E σ H) : tFor (tI K m) (tG K t is) (tS K b) E σ H := by
  obtain ⟨G, F, e, r, hp⟩ := h
  obtain ⟨ds, e1, h1, hp⟩ := onR_inv hp
  refine ⟨G, F, e, ds, e1, r, h1, fun J F0 H0 n wk => ?_⟩
  refine ⟨fun i m σ H => m = ds.length - i ∧ i ≤ ds.length ∧ ∃ F e, R K G F H σ e ∧ Ex F0 F ∧ Post K G F E (loopL t b (ds.drop i) e), ⟨ds.length, by omega, Nat.zero_le _, F0, e1, n.r, Evl.Ex.refl _, by rw [List.drop_zero]; exact Post.ex hp n.go.ff⟩, ?_⟩
  rintro i m σ' H' ⟨rfl, hi, F', e', r', x', hp'⟩
  obtain ⟨w1, w2⟩ := wk i F' H' x' r'.fh
  by_cases hlt : i < ds.length
  · have hd : ds[i]? = some ds[i] := List.getElem?_eq_getElem hlt
    obtain ⟨g1, g2⟩ := w1 _ hd
    rw [List.drop_eq_getElem_cons hlt] at hp'
    refine .inr ⟨g1, fun σ2 H2 => ∃ F e, R K G F H2 σ2 e ∧ Ex F0 F ∧ Post K G F E (loopL t b (ds.drop (i + 1)) e), fun σ2 H2 q => ⟨ds.length - (i + 1), by omega, rfl, hlt, q⟩, fun x H3 y => ?_⟩
    obtain ⟨F3, go, hx⟩ := g2 x H3 y
    have n3 := r'.step go
    unfold loopL at hp'
    split at hp'
    · rename_i e2 ht
      refine ⟨G, F3, e', _, e2, n3.r, hx, ht, fun σ4 r4 _ => ⟨G, F3, e2, r4, ?_⟩⟩
      cases hb : b e2 with
      | nx e3 =>
        rw [hb] at hp'
        exact fun F5 H5 σ5 r5 x5 => ⟨F5, e3, r5, (x'.trans go.ff).trans x5, Post.ex hp' (go.ff.trans x5)⟩
      | ct e3 =>
        rw [hb] at hp'
        exact fun F5 H5 σ5 r5 x5 => ⟨F5, e3, r5, (x'.trans go.ff).trans x5, Post.ex hp' (go.ff.trans x5)⟩
      | bk e3 =>
        rw [hb] at hp'
        exact fun F5 H5 σ5 r5 x5 => hp' F5 H5 σ5 r5 (go.ff.trans x5)
      | rt c e3 =>
        rw [hb] at hp'
        exact fun v F5 H5 σ5 r5 x5 q => hp' v F5 H5 σ5 r5 (go.ff.trans x5) q
      | ex n ds => rw [hb] at hp'; exact hp'.elim
      | no => rw [hb] at hp'; exact hp'.elim
    · exact hp'.elim
  · have e2 : i = ds.length := by omega
    subst e2
    rw [List.drop_length] at hp'
    exact .inl ⟨w2 (List.getElem?_eq_none (Nat.le_refl _)), hp' F' H' σ' r' (Evl.Ex.refl _)⟩
theorem pds_for {m : M (List D)} {t : Tg} {is : List Nat} {b : En → Out} (hp : PassesOwn (model X.prog X.w) X.A X.env X.xe) (hc : X.calm = true) (hi : PId X tg ex m) (hg : PGd X tg t is) (hb : PDs X sts b) (hs : ∀ x, foldedSetIterable ex X.env x = pure x := by intro _; rfl) :
    PDS X (.For tg ex sts [] pos) (sFor m t b) := PSimp (ps_for hp hc hi hg hb hs) fun D σ H h => for_ok h

/-! ### while -/
def wN (t : M Bool) (b : En → Out) : Nat → En → Out
  | 0, _ => .no
  | n + 1, e => match t e with
    | .ok (true, e1) => (match b e1 with
      | .nx e2 => wN t b n e2
      | .ct e2 => wN t b n e2
      | .bk e2 => .nx e2
      | o => o)
    | .ok (false, e1) => .nx e1
    | .ex n ds => .ex n ds
    | .no => .no
theorem wN_mono {t : M Bool} {b : En → Out} : ∀ (n : Nat) (e : En), wN t b n e ≠ .no → wN t b (n + 1) e = wN t b n e
  | 0, e, h => absurd rfl h
  | n + 1, e, h => by
    show wN t b (n + 1 + 1) e = wN t b (n + 1) e
    have e1 : ∀ k, wN t b (k + 1) e = (match t e with
      | .ok (true, e1) => (match b e1 with
        | .nx e2 => wN t b k e2
        | .ct e2 => wN t b k e2
        | .bk e2 => .nx e2
        | o => o)
      | .ok (false, e1) => .nx e1
      | .ex n ds => .ex n ds
      | .no => .no) := fun k => rfl
    rw [e1 n] at h
    rw [e1 (n + 1), e1 n]
    cases ht : t e with
    | ex _ _ => rfl
    | no => rfl
    | ok p =>
      obtain ⟨c, e2⟩ := p
      rw [ht] at h
      cases c with
      | false => rfl
      | true =>
        simp only at h ⊢
        cases hb : b e2 with
        | nx e3 => rw [hb] at h; exact wN_mono n e3 h
        | ct e3 => rw [hb] at h; exact wN_mono n e3 h
        | bk e3 => rfl
        | rt c e3 => rfl
        | ex _ _ => rfl
        | no => rfl
theorem wN_le {t : M Bool} {b : En → Out} {n : Nat} {e : En} (h : wN t b n e ≠ .no) : ∀ k, wN t b (n + k) e = wN t b n e
  | 0 => rfl
  | k + 1 => by
    have ih := wN_le h k
    show wN t b (n + k + 1) e = _
    rw [wN_mono (n + k) e (by rw [ih]; exact h), ih]
open Classical in
noncomputable def sWhile (t : M Bool) (b : En → Out) : En → Out := fun e => if h : ∃ n, wN t b n e ≠ .no then wN t b h.choose e else .no
theorem sWhile_at {t : M Bool} {b : En → Out} {n : Nat} {e : En} (h : wN t b n e ≠ .no) : sWhile t b e = wN t b n e := by
  unfold sWhile
  have hx : ∃ n, wN t b n e ≠ .no := ⟨n, h⟩
  rw [dif_pos hx]
  have h1 := wN_le hx.choose_spec n
  have h2 := wN_le h hx.choose
  rw [← h1, ← h2, Nat.add_comm]
/-- the unfolding -/
theorem sWhile_eq (t : M Bool) (b : En → Out) (e : En) : sWhile t b e = (match t e with
    | .ok (true, e1) => (match b e1 with
      | .nx e2 => sWhile t b e2
      | .ct e2 => sWhile t b e2
      | .bk e2 => .nx e2
      | o => o)
    | .ok (false, e1) => .nx e1
    | .ex n ds => .ex n ds
    | .no => .no) := by
  have e1 : ∀ k, wN t b (k + 1) e = (match t e with
    | .ok (true, e1) => (match b e1 with
      | .nx e2 => wN t b k e2
      | .ct e2 => wN t b k e2
      | .bk e2 => .nx e2
      | o => o)
    | .ok (false, e1) => .nx e1
    | .ex n ds => .ex n ds
    | .no => .no) := fun k => rfl
  cases ht : t e with
  | ex m ds =>
    have := e1 0
    rw [ht] at this
    exact (sWhile_at (n := 1) (by rw [this]; intro z; cases z)).trans this
  | no =>
    show sWhile t b e = .no
    unfold sWhile
    rw [dif_neg]
    rintro ⟨n, hn⟩
    cases n with
    | zero => exact hn rfl
    | succ n => rw [e1 n, ht] at hn; exact hn rfl
  | ok p =>
    obtain ⟨c, e2⟩ := p
    cases c with
    | false =>
      have := e1 0
      rw [ht] at this
      exact (sWhile_at (n := 1) (by rw [this]; intro z; cases z)).trans this
    | true =>
      simp only
      have go : ∀ e3, (∀ k, wN t b (k + 1) e = wN t b k e3) → sWhile t b e = sWhile t b e3 := fun e3 hk => by
        by_cases hx : ∃ n, wN t b n e3 ≠ .no
        · obtain ⟨n, hn⟩ := hx
          rw [sWhile_at hn, sWhile_at (n := n + 1) (by rw [hk n]; exact hn), hk n]
        · have hy : ¬ ∃ n, wN t b n e ≠ .no := fun ⟨n, hn⟩ => by
            cases n with
            | zero => exact hn rfl
            | succ n => exact hx ⟨n, by rw [← hk n]; exact hn⟩
          unfold sWhile
          rw [dif_neg hx, dif_neg hy]
      cases hb : b e2 with
      | nx e3 => exact go e3 fun k => by rw [e1 k, ht]; simp only [hb]
      | ct e3 => exact go e3 fun k => by rw [e1 k, ht]; simp only [hb]
      | bk e3 =>
        have := e1 0
        rw [ht] at this
        simp only [hb] at this
        exact (sWhile_at (n := 1) (by rw [this]; intro z; cases z)).trans this
      | rt c e3 =>
        have := e1 0
        rw [ht] at this
        simp only [hb] at this
        exact (sWhile_at (n := 1) (by rw [this]; intro z; cases z)).trans this
      | ex m ds =>
        have := e1 0
        rw [ht] at this
        simp only [hb] at this
        exact (sWhile_at (n := 1) (by rw [this]; intro z; cases z)).trans this
      | no =>
        show sWhile t b e = .no
        unfold sWhile
        rw [dif_neg]
        rintro ⟨n, hn⟩
        cases n with
        | zero => exact hn rfl
        | succ n =>
          rw [e1 n, ht] at hn
          simp only [hb] at hn
          exact hn rfl
theorem while_ok {t : M Bool} {b : En → Out} (h : tS K (sWhile t b) E σ H) : tWhile (tT K t) (tS K b) E σ H := by
  obtain ⟨G, F0, e0, r0, hp0⟩ := h
  have hx : ∃ n, wN t b n e0 ≠ .no := by
    by_cases hx : ∃ n, wN t b n e0 ≠ .no
    · exact hx
    · unfold sWhile at hp0
      rw [dif_neg hx] at hp0
      exact hp0.elim
  obtain ⟨n0, hn0⟩ := hx
  rw [sWhile_at hn0] at hp0
  refine ⟨fun n σ H => ∃ F e, R K G F H σ e ∧ Ex F0 F ∧ Post K G F E (wN t b n e), ⟨n0, F0, e0, r0, Evl.Ex.refl _, hp0⟩, ?_⟩
  rintro n σ1 H1 ⟨F1, e1, r1, x1, hp⟩
  cases n with
  | zero => exact hp.elim
  | succ n =>
    unfold wN at hp
    split at hp
    · rename_i e2 ht
      refine ⟨G, F1, e1, true, e2, r1, ht, fun F' H' nx => ?_⟩
      refine (if_pos rfl).mpr ⟨fun σ H => ∃ F e, R K G F H σ e ∧ Ex F0 F ∧ Post K G F E (wN t b n e), fun σ' H' q => ⟨n, Nat.lt_succ_self n, q⟩, G, F', e2, nx.r, ?_⟩
      cases hb : b e2 with
      | nx e3 =>
        rw [hb] at hp
        exact fun F5 H5 σ5 r5 x5 => ⟨F5, e3, r5, (x1.trans nx.go.ff).trans x5, Post.ex hp (nx.go.ff.trans x5)⟩
      | ct e3 =>
        rw [hb] at hp
        exact fun F5 H5 σ5 r5 x5 => ⟨F5, e3, r5, (x1.trans nx.go.ff).trans x5, Post.ex hp (nx.go.ff.trans x5)⟩
      | bk e3 =>
        rw [hb] at hp
        exact fun F5 H5 σ5 r5 x5 => hp F5 H5 σ5 r5 (nx.go.ff.trans x5)
      | rt c e3 =>
        rw [hb] at hp
        exact fun v F5 H5 σ5 r5 x5 q => hp v F5 H5 σ5 r5 (nx.go.ff.trans x5) q
      | ex n ds => rw [hb] at hp; exact hp.elim
      | no => rw [hb] at hp; exact hp.elim
    · rename_i e2 ht
      refine ⟨G, F1, e1, false, e2, r1, ht, fun F' H' nx => ?_⟩
      exact (if_neg Bool.false_ne_true).mpr (hp F' H' σ1 nx.r nx.go.ff)
    · exact hp.elim
    · exact hp.elim
theorem pds_while {t : M Bool} {b : En → Out} (hp : PassesOwn (model X.prog X.w) X.A X.env X.xe) (hc : PTd X ex t) (hb : PDs X sts b) : PDS X (.While ex sts [] pos) (sWhile t b) := PSimp (ps_while hp hc hb) fun D σ H h => while_ok h
end
end DL

namespace DL
open PySem L2 PyProof.Rows

/-! ### what a def promises -/
abbrev Sf := List Ce → Rs (Ce × List Ce)
inductive CsAt (K : PySem.W.Frag) (F H : Hp) : Nat → List Ce → List V → List (Nat × Addr) → Prop where
  | nil {n : Nat} : CsAt K F H n [] [] []
  | f {n : Nat} {v : V} {d : D} {cs : List Ce} {vs : List V} {io : List (Nat × Addr)} : Dn K F v d → CsAt K F H (n + 1) cs vs io → CsAt K F H n (.f d :: cs) (v :: vs) io
  | o {n : Nat} {a : Addr} {c : Ce} {o : HO} {xs : List V} {cs : List Ce} {vs : List V} {io : List (Nat × Addr)} : c.io = true → F a = none → H a = some o → CeO o c xs → DnA K F xs c.mem → CsAt K F H (n + 1) cs vs io →
      CsAt K F H n (c :: cs) (.ref a :: vs) ((n, a) :: io)
inductive OutAt (K : PySem.W.Frag) (F H : Hp) : List Addr → List Ce → Prop where
  | nil : OutAt K F H [] []
  | cons {a : Addr} {c : Ce} {o : HO} {xs : List V} {as : List Addr} {cs : List Ce} : F a = none → H a = some o → CeO o c xs → DnA K F xs c.mem → OutAt K F H as cs → OutAt K F H (a :: as) (c :: cs)
def spD (K : PySem.W.Frag) (S : Sf) : Sp := fun vs H Q _ => ∃ F cs c outs io, Ex F H ∧ CsAt K F H 0 cs vs io ∧ (io.map (·.2)).Nodup ∧ S cs = .ok (c, outs) ∧
  ∀ v F' H', Go F H F' H' (· ∈ io.map (·.2)) → NAt K H F' H' c v → OutAt K F' H' (io.map (·.2)) outs → Q v H'
def owIx : Nat → List Ce → List Nat
  | _, [] => []
  | n, c :: cs => match c with
    | .f _ => owIx (n + 1) cs
    | _ => n :: owIx (n + 1) cs
def outsAt : List Nat → En → Rs (List Ce)
  | [], _ => .ok []
  | i :: is, e => match e[i]? with
    | some (some c) => if c.io = true then (outsAt is e).bind fun cs => .ok (c :: cs) else .no
    | _ => .no
def startE (n : Nat) (cs : List Ce) : En := cs.map some ++ List.replicate (n - cs.length) none
def runD (n : Nat) (m : En → Out) (cs : List Ce) : Rs (Ce × List Ce) := match m (startE n cs) with
  | .rt c e => (outsAt (owIx 0 cs) e).bind fun os => .ok (c, os)
  | .nx e => (outsAt (owIx 0 cs) e).bind fun os => .ok (.f .none, os)
  | .ex n ds => .ex n ds
  | _ => .no
section
variable {K : PySem.W.Frag} {F H F' H' : Hp}
theorem CsAt.len : ∀ {n : Nat} {cs : List Ce} {vs : List V} {io : List (Nat × Addr)}, CsAt K F H n cs vs io → cs.length = vs.length
  | _, _, _, _, .nil => rfl
  | _, _, _, _, .f _ t => congrArg (· + 1) (CsAt.len t)
  | _, _, _, _, .o _ _ _ _ _ t => congrArg (· + 1) (CsAt.len t)
theorem CsAt.ix : ∀ {n : Nat} {cs : List Ce} {vs : List V} {io : List (Nat × Addr)}, CsAt K F H n cs vs io → io.map (·.1) = owIx n cs
  | _, _, _, _, .nil => rfl
  | _, _, _, _, .f _ t => by unfold owIx; exact CsAt.ix t
  | _, _, _, _, .o (c := c) h _ _ ho _ t => by
    cases c with
    | f d => exact ho.elim
    | l p ds => unfold owIx; rw [List.map_cons, CsAt.ix t]
    | k p t0 ks vs => unfold owIx; rw [List.map_cons, CsAt.ix t]
theorem CsAt.le : ∀ {n : Nat} {cs : List Ce} {vs : List V} {io : List (Nat × Addr)}, CsAt K F H n cs vs io → ∀ p ∈ io, n ≤ p.1
  | _, _, _, _, .nil, _, h => nomatch h
  | _, _, _, _, .f _ t, p, h => by have := CsAt.le t p h; omega
  | _, _, _, _, .o _ _ _ _ _ t, p, h => by
    rcases List.mem_cons.mp h with rfl | h
    · exact Nat.le_refl _
    · have := CsAt.le t p h; omega
/-- what a parameter's slot holds at the entry -/
theorem CsAt.at : ∀ {n : Nat} {cs : List Ce} {vs : List V} {io : List (Nat × Addr)}, CsAt K F H n cs vs io → ∀ (i : Nat) (c : Ce), cs[i]? = some c → ∃ v, vs[i]? = some v ∧
    ((∃ d, c = .f d ∧ Dn K F v d) ∨ ∃ a o xs, v = .ref a ∧ c.io = true ∧ F a = none ∧ H a = some o ∧ CeO o c xs ∧ DnA K F xs c.mem ∧ (n + i, a) ∈ io)
  | _, _, _, _, .nil, i, c, h => by simp at h
  | _, _, _, _, .f hd t, 0, c, h => by
    simp at h
    subst h
    exact ⟨_, by simp, .inl ⟨_, rfl, hd⟩⟩
  | n, _, _, _, .f hd t, i + 1, c, h => by
    simp at h
    obtain ⟨v, h1, h2⟩ := CsAt.at t i c h
    refine ⟨v, by simpa using h1, ?_⟩
    rcases h2 with h2 | ⟨a, o, xs, q1, q2, q3, q4, q5, q6, q7⟩
    · exact .inl h2
    · exact .inr ⟨a, o, xs, q1, q2, q3, q4, q5, q6, by rw [show n + (i + 1) = n + 1 + i by omega]; exact q7⟩
  | n, _, _, _, .o h1 h2 h3 h4 h5 t, 0, c, h => by
    simp at h
    subst h
    exact ⟨_, by simp, .inr ⟨_, _, _, rfl, h1, h2, h3, h4, h5, by simp⟩⟩
  | n, _, _, _, .o h1 h2 h3 h4 h5 t, i + 1, c, h => by
    simp at h
    obtain ⟨v, g1, g2⟩ := CsAt.at t i c h
    refine ⟨v, by simpa using g1, ?_⟩
    rcases g2 with h2 | ⟨a, o, xs, q1, q2, q3, q4, q5, q6, q7⟩
    · exact .inl h2
    · exact .inr ⟨a, o, xs, q1, q2, q3, q4, q5, q6, List.mem_cons_of_mem _ (by rw [show n + (i + 1) = n + 1 + i by omega]; exact q7)⟩
theorem CsAt.ios : ∀ {n : Nat} {cs : List Ce} {vs : List V} {io : List (Nat × Addr)}, CsAt K F H n cs vs io → ∀ p ∈ io, ∃ i, p.1 = n + i ∧ vs[i]? = some (.ref p.2) ∧ ∃ c, cs[i]? = some c ∧ c.io = true
  | _, _, _, _, .nil, _, h => nomatch h
  | n, _, _, _, .f _ t, p, h => by
    obtain ⟨i, h1, h2, c, h3, h4⟩ := CsAt.ios t p h
    exact ⟨i + 1, by omega, by simpa using h2, c, by simpa using h3, h4⟩
  | n, _, _, _, .o q _ _ _ _ t, p, h => by
    rcases List.mem_cons.mp h with rfl | h
    · exact ⟨0, rfl, by simp, _, by simp, q⟩
    · obtain ⟨i, h1, h2, c, h3, h4⟩ := CsAt.ios t p h
      exact ⟨i + 1, by omega, by simpa using h2, c, by simpa using h3, h4⟩
theorem nd_snd {io : List (Nat × Addr)} (h : (io.map (·.2)).Nodup) {i j : Nat} {a : Addr} (h1 : (i, a) ∈ io) (h2 : (j, a) ∈ io) : i = j := by
  induction io with
  | nil => cases h1
  | cons p io ih =>
    rw [List.map_cons, List.nodup_cons] at h
    rcases List.mem_cons.mp h1 with e1 | h1'
    · rcases List.mem_cons.mp h2 with e2 | h2'
      · rw [← e2] at e1
        exact congrArg Prod.fst e1
      · exfalso
        apply h.1
        rw [← e1]
        exact List.mem_map_of_mem (f := (·.2)) h2'
    · rcases List.mem_cons.mp h2 with e2 | h2'
      · exfalso
        apply h.1
        rw [← e2]
        exact List.mem_map_of_mem (f := (·.2)) h1'
      · exact ih h.2 h1' h2'
theorem start_at {N : List Str} {vs : List V} {i : Nat} {v : V} (h : vs[i]? = some v) : (L2.start N vs)[i]? = some (some v) := by
  unfold L2.start
  have hl : i < vs.length := (List.getElem?_eq_some_iff.mp h).1
  rw [List.getElem?_append_left (by simpa using hl), List.getElem?_map, h]
  rfl
theorem startE_at {n i : Nat} {cs : List Ce} {c : Ce} (h : (startE n cs)[i]? = some (some c)) : cs[i]? = some c := by
  unfold startE at h
  by_cases hl : i < cs.length
  · rw [List.getElem?_append_left (by simpa using hl), List.getElem?_map] at h
    cases q : cs[i]? with
    | none => rw [q] at h; cases h
    | some c' => rw [q] at h; simpa using h
  · rw [List.getElem?_append_right (by simpa using Nat.le_of_not_lt hl)] at h
    have := List.mem_of_getElem? h
    rw [List.mem_replicate] at this
    cases this.2
/-- the state at the entry -/
theorem R.start {N : List Str} {cs : List Ce} {vs : List V} {io : List (Nat × Addr)} (e : Ex F H) (h : CsAt K F H 0 cs vs io) (hn : (io.map (·.2)).Nodup) (hN : vs.length ≤ N.length) : R K ⟨F, H, io⟩ F H (L2.start N vs) (startE N.length cs) := by
  refine ⟨Go.refl e, e, fun i c q => ?_, fun i j c c' a hij h1 h2 o1 o2 s1 s2 => ?_, fun p hp => ?_, ?_⟩
  · obtain ⟨v, h1, h2⟩ := h.at i c (startE_at q)
    refine ⟨v, start_at h1, ?_⟩
    rcases h2 with h2 | ⟨a, o, xs, rfl, q2, q3, q4, q5, q6, q7⟩
    · exact .inl h2
    · exact .inr ⟨a, o, xs, rfl, q3, q4, q5, q6, fun _ => by simpa using q7, fun z => by rw [q2] at z; cases z⟩
  · obtain ⟨v, g1, g2⟩ := h.at i c (startE_at h1)
    obtain ⟨v', g1', g2'⟩ := h.at j c' (startE_at h2)
    rw [start_at g1] at s1
    rw [start_at g1'] at s2
    cases s1
    cases s2
    rcases g2 with ⟨d, rfl, _⟩ | ⟨b, o, xs, q1, q2, q3, q4, q5, q6, q7⟩
    · cases o1
    · rcases g2' with ⟨d, rfl, _⟩ | ⟨b', o', xs', r1, r2, r3, r4, r5, r6, r7⟩
      · cases o2
      · cases q1
        cases r1
        exact hij (by simpa using nd_snd hn q7 r7)
  · obtain ⟨i, h1, h2, c, h3, h4⟩ := h.ios p hp
    have e1 : p.1 = i := by omega
    refine ⟨by rw [e1]; exact start_at h2, c, ?_, h4⟩
    rw [e1]
    unfold startE
    have hl : i < cs.length := (List.getElem?_eq_some_iff.mp h3).1
    rw [List.getElem?_append_left (by simpa using hl), List.getElem?_map, h3]
    rfl
  · have := h.len
    unfold startE L2.start
    simp
    omega
/-- what was handed in, at the end -/
theorem R.outs {G : Bs} {σ : L2.St} {e : En} (r : R K G F H σ e) : ∀ (io : List (Nat × Addr)) (os : List Ce), (∀ p ∈ io, p ∈ G.io) → outsAt (io.map (·.1)) e = .ok os → OutAt K F H (io.map (·.2)) os
  | [], os, _, h => by cases h; exact .nil
  | p :: io, os, hp, h => by
    rw [List.map_cons] at h
    unfold outsAt at h
    split at h
    · rename_i c q
      obtain ⟨hio, h⟩ := ite_ok h
      obtain ⟨cs, h1, h2⟩ := Rs.bind_eq h
      cases h2
      obtain ⟨v, g1, g2⟩ := r.at_ p.1 c q
      have := (r.io p (hp p List.mem_cons_self)).1
      rw [this] at g1
      cases g1
      rcases g2 with ⟨d, rfl, _⟩ | ⟨b, o, xs, q1, q2, q3, q4, q5, _⟩
      · cases hio
      · cases q1
        rw [List.map_cons]
        exact .cons q2 q3 q4 q5 (R.outs r io cs (fun p' hp' => hp p' (List.mem_cons_of_mem _ hp')) h1)
    · cases h
end
/-- a def's body in its context -/
abbrev XX (P : Program) (w : World) (K : PySem.W.Frag) (mg : Str → Option Value) (base : Heap) (N : List Str) (qual : Str) (sc : Scope) (f : Addr) (cdv : Value) (A : Around) (outer : List PySem.Env) (s : Shared) (H : Hp) (E : XK) : Cx :=
  (cxOf CX0 P w K mg base N qual sc f cdv A outer s H E).nox
section
variable {P : Program} {w : World} {K : PySem.W.Frag} {mg : Str → Option Value} {base : Heap}
abbrev FnD (P : Program) (w : World) (K : PySem.W.Frag) (mg : Str → Option Value) (base : Heap) (k : Nat) (f : Addr) (fd : FuncData) (ps : List Str) (S : Sf) : Prop := FnOk P w K mg base CX0 k f fd ps (spD K S)
theorem fnD_ok {x qual : Str} {st : Stmt} {f : Addr} {fd : FuncData} {N ps : List Str} {k : Nat} {S : Sf} (F : Fun K x qual st f fd) (Sc : FnScope N ps (defScope st)) (hN : ps.length ≤ N.length) (m : En → Out)
    (hb : ∀ (cdv : Value) (A : Around) (outer : List PySem.Env) (s : Shared) (H : Hp) (E : XK), Room k (A.deeper (envOfC qual (defScope st) s.heap.objs.size f cdv)) → PDs (XX P w K mg base N qual (defScope st) f cdv A outer s H E) (defBody st) m)
    (hS : ∀ cs c outs, S cs = .ok (c, outs) → cs.length = ps.length ∧ runD N.length m cs = .ok (c, outs)) : FnD P w K mg base (k + 1) f fd ps S := by
  refine F.ok Sc (fun vs H Q E h => ?_) (fun cdv A outer s H vs Q E hr h => ?_)
  · obtain ⟨F0, cs, c, outs, io, _, h1, _, h2, _⟩ := h
    rw [← h1.len]
    exact (hS cs c outs h2).1
  · obtain ⟨F0, cs, c, outs, io, he, h1, hn, h2, q⟩ := h
    obtain ⟨hl, hm⟩ := hS cs c outs h2
    refine ⟨_, hb cdv A outer s H E hr, ⟨F0, H, io⟩, F0, startE N.length cs, R.start he h1 hn (by rw [← h1.len, hl]; exact hN), ?_⟩
    unfold runD at hm
    have gms : ∀ b, Bs.ms ⟨F0, H, io⟩ b → b ∈ io.map (·.2) := fun b ⟨i, hi⟩ => List.mem_map_of_mem (f := (·.2)) hi
    split at hm
    · rename_i c' e' hq
      obtain ⟨os, g1, g2⟩ := Rs.bind_eq hm
      cases g2
      rw [hq]
      intro v F' H' σ' r x rt
      rw [← h1.ix] at g1
      exact q v F' H' (r.go.mono gms) rt (r.outs io _ (fun _ h => h) g1)
    · rename_i e' hq
      obtain ⟨os, g1, g2⟩ := Rs.bind_eq hm
      cases g2
      rw [hq]
      intro F' H' σ' r x
      rw [← h1.ix] at g1
      exact q .non F' H' (r.go.mono gms) (.inl ⟨_, rfl, .non⟩) (r.outs io _ (fun _ h => h) g1)
    · cases hm
    · cases hm
theorem FnD.imp {k : Nat} {f : Addr} {fd : FuncData} {ps : List Str} {S S' : Sf} (F : FnD P w K mg base k f fd ps S) (h : ∀ cs r, S' cs = .ok r → S cs = .ok r) : FnD P w K mg base k f fd ps S' :=
  FnOk.imp F fun vs H Q E ⟨F0, cs, c, outs, io, h1, h2, h3, h4, h5⟩ => ⟨F0, cs, c, outs, io, h1, h2, h3, h _ _ h4, h5⟩
end

/-! ### a call -/
/-- an argument: data, or a slot whose object the callee may change -/
inductive Ag where
  | d (d : D) | s (i : Nat)
def AgAt (K : PySem.W.Frag) (σ : L2.St) (F : Hp) (e : En) : Ag → V → Prop
  | .d d, v => Dn K F v d
  | .s i, v => σ[i]? = some (some v) ∧ ∃ c : Ce, e[i]? = some (some c) ∧ c.ow = true
inductive AgsAt (K : PySem.W.Frag) (σ : L2.St) (F : Hp) (e : En) : List Ag → List V → Prop where
  | nil : AgsAt K σ F e [] []
  | cons {a : Ag} {as : List Ag} {v : V} {vs : List V} : AgAt K σ F e a v → AgsAt K σ F e as vs → AgsAt K σ F e (a :: as) (v :: vs)
def tAg (K : PySem.W.Frag) (m : M (List Ag)) : TA := fun σ H Q => ∃ G F e as e', R K G F H σ e ∧ m e = .ok (as, e') ∧ ∀ vs F' H', Nx K G σ F H e F' H' e' → AgsAt K σ F' e' as vs → Q vs H'
abbrev PAg (X : Cx) (es : List Expr) (m : M (List Ag)) : Prop := PA X es (tAg X.K m)
def aD (m : M D) : M Ag := fun e => (m e).bind fun p => .ok (.d p.1, p.2)
def aS (i : Nat) : M Ag := fun e => match e[i]? with
  | some (some c) => if c.ow = true then .ok (.s i, e) else .no
  | _ => .no
def agCells : List Ag → En → Rs (List Ce)
  | [], _ => .ok []
  | .d d :: as, e => (agCells as e).bind fun cs => .ok (.f d :: cs)
  | .s i :: as, e => match e[i]? with
    | some (some c) => (agCells as e).bind fun cs => .ok (c.lent :: cs)
    | _ => .no
def agSlots : List Ag → List Nat
  | [] => []
  | .d _ :: as => agSlots as
  | .s i :: as => i :: agSlots as
def putBack : List Nat → List Ce → En → Rs En
  | [], [], e => .ok e
  | i :: is, c :: cs, e => match e[i]?, c with
    | some (some (.l p _)), .l _ ds => putBack is cs (e.set i (some (.l p ds)))
    | some (some (.k p t _ _)), .k _ t' ks vs => if t = t' then putBack is cs (e.set i (some (.k p t' ks vs))) else .no
    | _, _ => .no
  | _, _, _ => .no
def mCall (S : Sf) (ma : M (List Ag)) : M Ce := fun e => (ma e).bind fun p => (agCells p.1 p.2).bind fun cs => if (agSlots p.1).Nodup then (S cs).bind fun r => (putBack (agSlots p.1) r.2 p.2).bind fun e' => .ok (r.1, e') else .no
section
variable {X : Cx} {K : PySem.W.Frag} {G : Bs} {F F1 H H1 F2 H2 : Hp} {σ : L2.St} {e e1 : En} {v : V} {c : Ce} {d : D} {i : Nat} {a : Addr}
variable {ex ey : Expr} {es : List Expr} {pos p : Pos} {x : Str}
theorem AgAt.nx {g : Ag} (n : Nx K G σ F H e F1 H1 e1) (h : AgAt K σ F e g v) : AgAt K σ F1 e1 g v := by
  cases g with
  | d d => exact n.dn h
  | s i =>
    obtain ⟨h1, c, h2, h3⟩ := h
    obtain ⟨c', h4, h5⟩ := sh_at n.sh h2
    exact ⟨h1, c', h4, by rw [(kd_ow h5).1]; exact h3⟩
theorem pag_nil : PAg X [] aNil := PAimp pa_nil fun σ H Q ⟨G, F, e, d, e', r, hm, q⟩ => by
  cases hm
  exact q [] F H (Nx.refl r) .nil
theorem pag_cons {m : M D} {ms : M (List Ag)} (ha : PF X ex m) (hr : PAg X es ms) (hs : starEach (ex :: es) X.env = (false, eval ex X.env) :: starEach es X.env := by rfl) : PAg X (ex :: es) (aCons (aD m) ms) := PAimp (pa_cons ha hr hs) fun σ H Q ⟨G, F, e, d, e', r, hm, q⟩ => by
  obtain ⟨x, e1, h1, hm⟩ := bind_ok2 hm
  obtain ⟨y, e2, h2, hm⟩ := bind_ok2 hm
  cases hm
  obtain ⟨d, e3, h3, h4⟩ := bind_ok2 h1
  cases h4
  exact ⟨G, F, e, d, _, r, h3, fun v F1 H1 n1 hd => ⟨G, F1, _, y, e2, n1.r, h2, fun vs F2 H2 n2 hds => q (v :: vs) F2 H2 (n1.trans n2) (.cons (n2.dn hd) hds)⟩⟩
theorem pag_conS {ms : M (List Ag)} (ha : PE X ex (tVar i)) (hr : PAg X es ms) (hs : starEach (ex :: es) X.env = (false, eval ex X.env) :: starEach es X.env := by rfl) : PAg X (ex :: es) (aCons (aS i) ms) := PAimp (pa_cons ha hr hs) fun σ H Q ⟨G, F, e, d, e', r, hm, q⟩ => by
  obtain ⟨x, e1, h1, hm⟩ := bind_ok2 hm
  obtain ⟨y, e2, h2, hm⟩ := bind_ok2 hm
  cases hm
  unfold aS at h1
  split at h1
  · rename_i c hc
    obtain ⟨ho, h1⟩ := ite_ok h1
    cases h1
    obtain ⟨v, g1, g2⟩ := r.at_ i c hc
    refine ⟨v, g1, G, F, _, y, e2, r, h2, fun vs F2 H2 n2 hds => q (v :: vs) F2 H2 n2 (.cons ?_ hds)⟩
    exact AgAt.nx (g := .s i) n2 ⟨g1, c, hc, ho⟩
  · cases h1
/-- the state goes on, the slots as told -/
theorem R.next (r : R K G F H σ e) (go : Go F H F1 H1 (Lv σ e)) (sh : e1.map (Option.map Ce.kd) = e.map (Option.map Ce.kd)) (hat : ∀ (i : Nat) (c : Ce), e1[i]? = some (some c) → ∃ v, σ[i]? = some (some v) ∧ At K G F1 H1 i c v) : Nx K G σ F H e F1 H1 e1 := by
  refine ⟨⟨?_, r.ba, hat, fun i j c c' a hij h1 h2 o1 o2 s1 => ?_, fun p hp => ?_, ?_⟩, go, sh⟩
  · refine ⟨r.go.ff.trans go.ff, fun b o hb hn => ?_, go.fh, fun b h1 h2 => ?_⟩
    · refine go.hh b o (r.go.hh b o hb hn) fun ⟨i, c, h1, h2, h3⟩ => ?_
      obtain ⟨v, g1, g2⟩ := r.at_ i c h1
      rw [h3] at g1
      cases g1
      obtain ⟨a, u, xs, q, _, _, _, _, q5, q6⟩ := g2.own h2
      cases q
      cases hio : c.io with
      | true => exact hn ⟨i, q5 hio⟩
      | false => rw [q6 hio] at hb; cases hb
    · obtain ⟨p, q⟩ := r.go.st b h1 h2
      exact go.st b p q
  · obtain ⟨d1, g1, w1⟩ := sh_at sh.symm h1
    obtain ⟨d2, g2, w2⟩ := sh_at sh.symm h2
    exact r.sep i j d1 d2 a hij g1 g2 (by rw [(kd_ow w1).1]; exact o1) (by rw [(kd_ow w2).1]; exact o2) s1
  · obtain ⟨h1, c, h2, h3⟩ := r.io p hp
    obtain ⟨c', g1, w1⟩ := sh_at sh h2
    exact ⟨h1, c', g1, by rw [(kd_ow w1).2]; exact h3⟩
  · have := congrArg List.length sh
    simp only [List.length_map] at this
    rw [this]
    exact r.len
theorem lent_io {c : Ce} (h : c.ow = true) : c.lent.io = true := by cases c <;> first | rfl | cases h
theorem lent_mem (c : Ce) : c.lent.mem = c.mem := by cases c <;> rfl
theorem lent_ceO {o : HO} {c : Ce} {xs : List V} (h : CeO o c xs) : CeO o c.lent xs := by cases c <;> exact h
/-- the arguments as the callee finds them -/
theorem ags_cells (r : R K G F H σ e) : ∀ {as : List Ag} {vs : List V} {cs : List Ce} (n : Nat), AgsAt K σ F e as vs → agCells as e = .ok cs → ∃ io : List (Nat × Addr), CsAt K F H n cs vs io ∧ io.length = (agSlots as).length ∧
    ∀ (k : Nat) (i : Nat) (b : Addr), (agSlots as)[k]? = some i → (io.map (·.2))[k]? = some b → σ[i]? = some (some (.ref b)) ∧ Lv σ e b
  | _, _, _, n, .nil, h => by
    cases h
    exact ⟨[], .nil, rfl, fun k i b h => by simp [agSlots] at h⟩
  | _, _, _, n, .cons (a := .d d) hd t, h => by
    obtain ⟨cs, h1, h2⟩ := Rs.bind_eq h
    cases h2
    obtain ⟨io, g1, g2, g3⟩ := ags_cells r (n + 1) t h1
    exact ⟨io, .f hd g1, g2, g3⟩
  | _, _, _, n, .cons (a := .s i) hd t, h => by
    obtain ⟨s1, c, s2, s3⟩ := hd
    unfold agCells at h
    rw [s2] at h
    obtain ⟨cs, h1, h2⟩ := Rs.bind_eq h
    cases h2
    obtain ⟨io, g1, g2, g3⟩ := ags_cells r (n + 1) t h1
    obtain ⟨w, z1, z2⟩ := r.at_ i c s2
    rw [s1] at z1
    cases z1
    obtain ⟨a, o, xs, rfl, q1, q2, q3, q4, _⟩ := z2.own s3
    refine ⟨(n, a) :: io, .o (lent_io s3) q1 q2 (lent_ceO q3) (by rw [lent_mem]; exact q4) g1, by unfold agSlots; simp [g2], fun k j b hk hb => ?_⟩
    unfold agSlots at hk
    cases k with
    | zero =>
      simp at hk hb
      subst hk hb
      exact ⟨s1, i, c, s2, s3, s1⟩
    | succ k => exact g3 k j b (by simpa using hk) (by simpa using hb)
theorem nodup_of {α : Type} {l : List α} (h : ∀ (i j : Nat) (x : α), l[i]? = some x → l[j]? = some x → i = j) : l.Nodup := by
  induction l with
  | nil => exact List.nodup_nil
  | cons y l ih =>
    refine List.nodup_cons.mpr ⟨fun hy => ?_, ih fun i j x h1 h2 => ?_⟩
    · obtain ⟨k, hk, e⟩ := List.mem_iff_getElem.mp hy
      have := h 0 (k + 1) y (by simp) (by simp [hk, e])
      omega
    · have := h (i + 1) (j + 1) x (by simpa using h1) (by simpa using h2)
      omega
theorem nodup_ix' {α : Type} {l : List α} (h : l.Nodup) {i j : Nat} {x : α} (h1 : l[i]? = some x) (h2 : l[j]? = some x) : i = j := by
  obtain ⟨l1, e1⟩ := List.getElem?_eq_some_iff.mp h1
  obtain ⟨l2, e2⟩ := List.getElem?_eq_some_iff.mp h2
  exact (List.getElem_inj h).mp (e1.trans e2.symm)
/-- what the slots hold behind a call -/
theorem putBack_at : ∀ {is : List Nat} {os : List Ce} {as : List Addr} {e e' : En}, is.Nodup → putBack is os e = .ok e' → OutAt K F1 H1 as os →
    e'.map (Option.map Ce.kd) = e.map (Option.map Ce.kd) ∧ ∀ (i : Nat) (c : Ce), e'[i]? = some (some c) → (i ∉ is ∧ e[i]? = some (some c)) ∨
      ∃ (k : Nat) (b : Addr) (o : HO) (xs : List V), is[k]? = some i ∧ as[k]? = some b ∧ F1 b = none ∧ H1 b = some o ∧ CeO o c xs ∧ DnA K F1 xs c.mem
  | [], os, as, e, e', _, h, ho => by
    cases os with
    | nil =>
      cases h
      exact ⟨rfl, fun i c q => .inl ⟨by simp, q⟩⟩
    | cons _ _ => cases h
  | i :: is, os, as, e, e', hn, h, ho => by
    cases ho with
    | nil => cases h
    | @cons a c o xs as cs q1 q2 q3 q4 ho =>
      obtain ⟨n1, n2⟩ := List.nodup_cons.mp hn
      -- one slot, then the others
      have key : ∀ c0 c1 : Ce, e[i]? = some (some c0) → c1.kd = c0.kd → CeO o c1 xs → DnA K F1 xs c1.mem → putBack is cs (e.set i (some c1)) = .ok e' →
          e'.map (Option.map Ce.kd) = e.map (Option.map Ce.kd) ∧ ∀ (j : Nat) (c : Ce), e'[j]? = some (some c) → (j ∉ i :: is ∧ e[j]? = some (some c)) ∨
            ∃ (k : Nat) (b : Addr) (o : HO) (xs : List V), (i :: is)[k]? = some j ∧ (a :: as)[k]? = some b ∧ F1 b = none ∧ H1 b = some o ∧ CeO o c xs ∧ DnA K F1 xs c.mem := by
        intro c0 c1 h0 hk hc hm h
        obtain ⟨g1, g2⟩ := putBack_at n2 h ho
        refine ⟨g1.trans (set_kd h0 hk), fun j c hj => ?_⟩
        rcases g2 j c hj with ⟨z1, z2⟩ | ⟨k, b, o, xs, z1, z2, z3⟩
        · by_cases hji : j = i
          · subst hji
            rw [List.getElem?_set_self (List.getElem?_eq_some_iff.mp h0).1] at z2
            cases z2
            exact .inr ⟨0, a, o, xs, by simp, by simp, q1, q2, hc, hm⟩
          · rw [List.getElem?_set_ne (Ne.symm hji)] at z2
            exact .inl ⟨by simp [hji, z1], z2⟩
        · exact .inr ⟨k + 1, b, o, xs, by simpa using z1, by simpa using z2, z3⟩
      unfold putBack at h
      split at h
      · rename_i p ds0 p' ds h0
        exact key (.l p ds0) (.l p ds) h0 (by cases p <;> rfl) q3 q4 h
      · rename_i p t1 ks0 vs0 p' t0 ks vs h0
        obtain ⟨ht, h⟩ := ite_ok h
        exact key (.k p _ ks0 vs0) (.k p _ ks vs) h0 (by rw [ht]; cases p <;> cases t0 <;> rfl) q3 q4 h
      · cases h
theorem call_ok {S : Sf} {ma : M (List Ag)} {H : Hp} {Q : VK} (h : tN K (mCall S ma) σ H Q) : tCall (spD K S) [] E0 (tAg K ma) σ H Q := by
  obtain ⟨G, F, e, c, e', r, hm, q⟩ := h
  obtain ⟨as, e1, h1, hm⟩ := bind_ok2 hm
  obtain ⟨cs, h2, hm⟩ := Rs.bind_eq hm
  obtain ⟨hnd, hm⟩ := ite_ok hm
  obtain ⟨⟨c', os⟩, h3, hm⟩ := Rs.bind_eq hm
  obtain ⟨e2, h4, hm⟩ := Rs.bind_eq hm
  cases hm
  refine ⟨G, F, e, as, e1, r, h1, fun vs F1 H1 n ha => ?_⟩
  show spD K S (vs ++ []) H1 Q E0
  rw [List.append_nil]
  obtain ⟨io, g1, g2, g3⟩ := ags_cells n.r 0 ha h2
  have gk : ∀ (k : Nat) (b : Addr), (io.map (·.2))[k]? = some b → ∃ i, (agSlots as)[k]? = some i ∧ σ[i]? = some (some (.ref b)) ∧ Lv σ e1 b := fun k b hk => by
    have hl : k < (agSlots as).length := by
      have := (List.getElem?_eq_some_iff.mp hk).1
      rw [List.length_map, g2] at this
      exact this
    refine ⟨(agSlots as)[k], List.getElem?_eq_getElem hl, ?_⟩
    exact g3 k _ b (List.getElem?_eq_getElem hl) hk
  have hn2 : (io.map (·.2)).Nodup := nodup_of fun k j b hk hj => by
    obtain ⟨i1, s1, s2, l1⟩ := gk k b hk
    obtain ⟨i2, s3, s4, l2⟩ := gk j b hj
    by_cases hi : i1 = i2
    · subst hi
      exact nodup_ix' hnd s1 s3
    · exfalso
      have own : ∀ (k : Nat) (b : Addr) (i : Nat), (agSlots as)[k]? = some i → ∃ c : Ce, e1[i]? = some (some c) ∧ c.ow = true := by
        have go : ∀ {as : List Ag} {vs : List V}, AgsAt K σ F1 e1 as vs → ∀ (k i : Nat), (agSlots as)[k]? = some i → ∃ c : Ce, e1[i]? = some (some c) ∧ c.ow = true := by
          intro as vs ha
          induction ha with
          | nil => intro k i h; simp [agSlots] at h
          | @cons a as v vs h0 _ ih =>
            cases a with
            | d d => exact ih
            | s i0 =>
              intro k i h
              unfold agSlots at h
              cases k with
              | zero =>
                simp at h
                subst h
                exact h0.2
              | succ k => exact ih k i (by simpa using h)
        exact fun k b i h => go ha k i h
      obtain ⟨c1, w1, w2⟩ := own k b i1 s1
      obtain ⟨c2, w3, w4⟩ := own j b i2 s3
      exact n.r.sep i1 i2 c1 c2 b hi w1 w3 w2 w4 s2 s4
  refine ⟨F1, cs, _, os, io, n.r.fh, g1, hn2, h3, fun v F2 H2 go nat out => ?_⟩
  have lv : ∀ b, b ∈ io.map (·.2) → Lv σ e1 b := fun b hb => by
    obtain ⟨k, hk⟩ := List.getElem?_of_mem hb
    obtain ⟨_, _, _, l⟩ := gk k b hk
    exact l
  obtain ⟨sh, pb⟩ := putBack_at hnd h4 out
  have n2 : Nx K G σ F1 H1 e1 F2 H2 e' := n.r.next (go.mono lv) sh fun i c2 hi => by
    rcases pb i c2 hi with ⟨z1, z2⟩ | ⟨k, b, o, xs, z1, z2, z3, z4, z5, z6⟩
    · obtain ⟨w, w1, w2⟩ := n.r.at_ i c2 z2
      refine ⟨w, w1, ?_⟩
      rcases w2 with ⟨d, rfl, hd⟩ | ⟨b, o, xs, rfl, y1, y2, y3, y4, y5, y6⟩
      · exact .inl ⟨d, rfl, hd.mono go.ff⟩
      · have hb : b ∉ io.map (·.2) := fun hb => by
          obtain ⟨k, hk⟩ := List.getElem?_of_mem hb
          obtain ⟨j, s1, s2, ⟨j', c', l1, l2, l3⟩⟩ := gk k b hk
          have hji : j' = i := Classical.byContradiction fun hne => n.r.sep j' i c' c2 b hne l1 z2 l2 y3.ow l3 w1
          have hj2 : j = i := by
            obtain ⟨w3, v3, _⟩ := n.r.at_ i c2 z2
            by_cases hne : j = i
            · exact hne
            · exfalso
              -- j is one of the slots handed over, so it is of its own
              have own : ∀ {as : List Ag} {vs : List V}, AgsAt K σ F1 e1 as vs → ∀ (k i : Nat), (agSlots as)[k]? = some i → ∃ c : Ce, e1[i]? = some (some c) ∧ c.ow = true := by
                intro as vs ha
                induction ha with
                | nil => intro k i h; simp [agSlots] at h
                | @cons a as v vs h0 _ ih =>
                  cases a with
                  | d d => exact ih
                  | s i0 =>
                    intro k i h
                    unfold agSlots at h
                    cases k with
                    | zero =>
                      simp at h
                      subst h
                      exact h0.2
                    | succ k => exact ih k i (by simpa using h)
              obtain ⟨c3, w5, w6⟩ := own ha k j s1
              exact n.r.sep j i c3 c2 b hne w5 z2 w6 y3.ow s2 w1
          rw [← hj2] at z1
          exact z1 (List.mem_of_getElem? s1)
        exact .inr ⟨b, o, xs, rfl, (go.st b y1 (by rw [y2]; rfl)).1, go.hh b o y2 hb, y3, y4.mono go.ff, y5, y6⟩
    · obtain ⟨j, s1, s2, _⟩ := gk k b z2
      have hji : j = i := by rw [z1] at s1; exact (Option.some.inj s1).symm
      subst hji
      obtain ⟨c0, g0, w0⟩ := sh_at sh.symm hi
      obtain ⟨w, w1, w2⟩ := n.r.at_ j c0 g0
      rw [s2] at w1
      cases w1
      have ow0 : c0.ow = true := by rw [(kd_ow w0).1]; exact z5.ow
      obtain ⟨b', o', xs', q', _, _, _, _, y5, y6⟩ := w2.own ow0
      cases q'
      exact ⟨_, s2, .inr ⟨b, o, xs, rfl, z3, z4, z5, z6, fun z => y5 (by rw [(kd_ow w0).2]; exact z), fun z => y6 (by rw [(kd_ow w0).2]; exact z)⟩⟩
  exact q v F2 H2 (n.trans n2) (nat.back n.go r.fh)
theorem pn_call {k : Nat} {f : Addr} {fd : FuncData} {ps : List Str} {S : Sf} {ma : M (List Ag)} (F : FnD X.prog X.w X.K X.mg X.base k f fd ps S) (hr : Room k X.A) (hg : Gl X x) (hm : X.mg x = some (.ref f)) (hk : PySem.W.keepIn X.K (.ref f) = true) (hb : Binds X.K fd ps [])
    (ha : PAg X (ex :: es) ma) (hdb : (x == ("__debug__" : Str)) = false := by decide) (he : starEach (ex :: es) X.env = (false, eval ex X.env) :: starEach es X.env := by rfl) (hpl : (backTo pos (starEach es X.env)).any (·.1) = false := by rfl) :
    PN X (.Call (.Name x p) (ex :: es) [] pos) (mCall S ma) := PEimp (pe_call F hr hg hm hk hb .nil pass0 ha hdb he hpl) fun σ H Q h => call_ok h
end
end DL

namespace DL
open PySem L2 PyProof.Rows

/-! ### list comprehensions -/
def wipeE (e : En) : List Nat → En
  | [] => e
  | v :: vs => (wipeE e vs).set v none
def restE (e e3 : En) : List Nat → En
  | [] => e3
  | v :: vs => (restE e e3 vs).set v ((e[v]?).getD none)
theorem wipe_get (σ : L2.St) (j : Nat) : ∀ vs : List Nat, (wipe σ vs)[j]? = if j ∈ vs then (σ[j]?).map (fun _ => none) else σ[j]?
  | [] => by simp [wipe]
  | v :: vs => by
    unfold wipe
    by_cases h : v = j
    · subst h
      rw [if_pos List.mem_cons_self]
      by_cases hl : v < (wipe σ vs).length
      · rw [List.getElem?_set_self hl]
        rw [wipe_length] at hl
        rw [List.getElem?_eq_getElem hl]
        rfl
      · rw [List.getElem?_eq_none (by simpa using Nat.le_of_not_lt hl)]
        rw [wipe_length] at hl
        rw [List.getElem?_eq_none (Nat.le_of_not_lt hl)]
        rfl
    · rw [List.getElem?_set_ne h, wipe_get σ j vs]
      simp [Ne.symm h]
theorem wipeE_len (e : En) : ∀ vs : List Nat, (wipeE e vs).length = e.length
  | [] => rfl
  | v :: vs => by unfold wipeE; rw [List.length_set, wipeE_len e vs]
theorem wipeE_get (e : En) (j : Nat) : ∀ vs : List Nat, (wipeE e vs)[j]? = if j ∈ vs then (e[j]?).map (fun _ => none) else e[j]?
  | [] => by simp [wipeE]
  | v :: vs => by
    unfold wipeE
    by_cases h : v = j
    · subst h
      rw [if_pos List.mem_cons_self]
      by_cases hl : v < (wipeE e vs).length
      · rw [List.getElem?_set_self hl]
        rw [wipeE_len] at hl
        rw [List.getElem?_eq_getElem hl]
        rfl
      · rw [List.getElem?_eq_none (by simpa using Nat.le_of_not_lt hl)]
        rw [wipeE_len] at hl
        rw [List.getElem?_eq_none (Nat.le_of_not_lt hl)]
        rfl
    · rw [List.getElem?_set_ne h, wipeE_get e j vs]
      simp [Ne.symm h]
theorem restE_len (e e3 : En) : ∀ vs : List Nat, (restE e e3 vs).length = e3.length
  | [] => rfl
  | v :: vs => by unfold restE; rw [List.length_set, restE_len e e3 vs]
theorem restE_get (e e3 : En) (hl : e3.length = e.length) (j : Nat) : ∀ vs : List Nat, (restE e e3 vs)[j]? = if j ∈ vs then e[j]? else e3[j]?
  | [] => by simp [restE]
  | v :: vs => by
    unfold restE
    by_cases h : v = j
    · subst h
      rw [if_pos List.mem_cons_self]
      by_cases hv : v < e.length
      · rw [List.getElem?_set_self (by rw [restE_len, hl]; exact hv), List.getElem?_eq_getElem hv]
        rfl
      · rw [List.getElem?_eq_none (by rw [List.length_set, restE_len, hl]; exact Nat.le_of_not_lt hv), List.getElem?_eq_none (Nat.le_of_not_lt hv)]
    · rw [List.getElem?_set_ne h, restE_get e e3 hl j vs]
      simp [Ne.symm h]
def cLoop (t : Tg) (vs : List Nat) (c : M Bool) (m : M D) : List D → List D → En → Rs (List D × En)
  | [], acc, e => if vs.all (frozenAt e) = true then .ok (acc, e) else .no
  | d :: ds, acc, e => if vs.all (frozenAt e) = true then
      (t d (wipeE e vs)).bind fun e1 => (c e1).bind fun p => if p.1 = true then
        (m p.2).bind fun q => if acc.length < 16000000 then cLoop t vs c m ds (acc ++ [q.1]) q.2 else .no
      else cLoop t vs c m ds acc p.2
    else .no
def mComp (src : M (List D)) (t : Tg) (vs : List Nat) (c : M Bool) (m : M D) : M Ce := fun e => (src e).bind fun p => (cLoop t vs c m p.1 [] p.2).bind fun q => .ok (.l false q.1, restE p.2 q.2 vs)
def mYes : M Bool := fun e => .ok (true, e)
section
variable {K : PySem.W.Frag} {G : Bs} {F H F1 H1 : Hp} {σ : L2.St} {e e1 e3 : En} {vs is : List Nat}
theorem fr_at (h : vs.all (frozenAt e) = true) {i : Nat} (hi : i ∈ vs) {c : Ce} (hc : e[i]? = some (some c)) : c.ow = false := by
  have h1 := List.all_eq_true.mp h i hi
  unfold frozenAt at h1
  rw [hc] at h1
  simpa using h1
theorem io_ow {c : Ce} (h : c.ow = false) : c.io = false := by cases c <;> first | rfl | cases h
/-- the block's own names are forgotten -/
theorem R.wipe (r : R K G F H σ e) (h : vs.all (frozenAt e) = true) : R K G F H (wipe σ vs) (wipeE e vs) := by
  have at2 : ∀ (j : Nat) (c : Ce), (wipeE e vs)[j]? = some (some c) → j ∉ vs ∧ e[j]? = some (some c) := fun j c hj => by
    rw [wipeE_get] at hj
    by_cases hv : j ∈ vs
    · rw [if_pos hv] at hj
      cases q : e[j]? with
      | none => rw [q] at hj; cases hj
      | some o => rw [q] at hj; cases hj
    · rw [if_neg hv] at hj
      exact ⟨hv, hj⟩
  have sg : ∀ j, j ∉ vs → (L2.wipe σ vs)[j]? = σ[j]? := fun j hj => by rw [wipe_get, if_neg hj]
  refine ⟨r.go, r.ba, fun j c hj => ?_, fun j k c1 c2 a hjk h1 h2 o1 o2 s1 s2 => ?_, fun p hp => ?_, by rw [wipeE_len, wipe_length]; exact r.len⟩
  · obtain ⟨hv, hj⟩ := at2 j c hj
    rw [sg j hv]
    exact r.at_ j c hj
  · obtain ⟨v1, g1⟩ := at2 j c1 h1
    obtain ⟨v2, g2⟩ := at2 k c2 h2
    rw [sg j v1] at s1
    rw [sg k v2] at s2
    exact r.sep j k c1 c2 a hjk g1 g2 o1 o2 s1 s2
  · obtain ⟨h1, c, h2, h3⟩ := r.io p hp
    have hv : p.1 ∉ vs := fun hv => by
      have := io_ow (fr_at h hv h2)
      rw [h3] at this
      cases this
    exact ⟨by rw [sg _ hv]; exact h1, c, by rw [wipeE_get, if_neg hv]; exact h2, h3⟩
/-- and told again -/
theorem R.unwipe (r : R K G F H (L2.wipe σ vs) (wipeE e3 vs)) (r1 : R K G F1 H1 σ e1) (x : Ex F1 F) (h : vs.all (frozenAt e1) = true) (hl : e3.length = e1.length) : R K G F H σ (restE e1 e3 vs) := by
  have at2 : ∀ (j : Nat) (c : Ce), (restE e1 e3 vs)[j]? = some (some c) → (j ∈ vs ∧ e1[j]? = some (some c)) ∨ (j ∉ vs ∧ (wipeE e3 vs)[j]? = some (some c) ∧ (L2.wipe σ vs)[j]? = σ[j]?) := fun j c hj => by
    rw [restE_get e1 e3 hl] at hj
    by_cases hv : j ∈ vs
    · rw [if_pos hv] at hj
      exact .inl ⟨hv, hj⟩
    · rw [if_neg hv] at hj
      exact .inr ⟨hv, by rw [wipeE_get, if_neg hv]; exact hj, by rw [wipe_get, if_neg hv]⟩
  refine ⟨r.go, r.ba, fun j c hj => ?_, fun j k c1 c2 a hjk h1 h2 o1 o2 s1 s2 => ?_, fun p hp => ?_, by rw [restE_len, hl]; exact r1.len⟩
  · rcases at2 j c hj with ⟨hv, g⟩ | ⟨hv, g, sg⟩
    · obtain ⟨v, q1, q2⟩ := r1.at_ j c g
      refine ⟨v, q1, ?_⟩
      have ow := fr_at h hv g
      rcases q2 with ⟨d, rfl, hd⟩ | ⟨a, o, xs, rfl, _, _, q, _⟩
      · exact .inl ⟨d, rfl, hd.mono x⟩
      · rw [q.ow] at ow; cases ow
    · obtain ⟨v, q1, q2⟩ := r.at_ j c g
      rw [sg] at q1
      exact ⟨v, q1, q2⟩
  · rcases at2 j c1 h1 with ⟨hv, g⟩ | ⟨hv, g, sg⟩
    · rw [fr_at h hv g] at o1; cases o1
    · rcases at2 k c2 h2 with ⟨hv', g'⟩ | ⟨hv', g', sg'⟩
      · rw [fr_at h hv' g'] at o2; cases o2
      · rw [← sg] at s1
        rw [← sg'] at s2
        exact r.sep j k c1 c2 a hjk g g' o1 o2 s1 s2
  · obtain ⟨h1, c, h2, h3⟩ := r.io p hp
    have hv : p.1 ∉ vs := fun hv => by
      rw [wipeE_get, if_pos hv] at h2
      cases q : e3[p.1]? with
      | none => rw [q] at h2; cases h2
      | some o => rw [q] at h2; cases h2
    rw [wipe_get, if_neg hv] at h1
    rw [wipeE_get, if_neg hv] at h2
    exact ⟨h1, c, by rw [restE_get e1 e3 hl, if_neg hv]; exact h2, h3⟩
theorem wipe_chg {σ2 : L2.St} (h : Chg is (L2.wipe σ vs) σ2) (hs : ∀ i ∈ is, i ∈ vs) : L2.wipe σ2 vs = L2.wipe σ vs := by
  apply List.ext_getElem?
  intro j
  rw [wipe_get, wipe_get]
  have hlen : σ2.length = σ.length := by rw [h.1, wipe_length]
  by_cases hv : j ∈ vs
  · rw [if_pos hv, if_pos hv]
    by_cases hj : j < σ.length
    · rw [List.getElem?_eq_getElem hj, List.getElem?_eq_getElem (by omega)]
      rfl
    · rw [List.getElem?_eq_none (Nat.le_of_not_lt hj), List.getElem?_eq_none (by omega)]
  · rw [if_neg hv, if_neg hv, h.2 j (fun z => hv (hs j z)), wipe_get, if_neg hv]
/-- an object that is no slot's is written -/
theorem R.other {a : Addr} {o : HO} (r : R K G F H σ e) (h1 : F a = none) (h2 : (H a).isSome = true) (h3 : ¬ Lv σ e a) (h4 : G.H a = none) : R K G F (upd H a o) σ e := by
  refine ⟨⟨r.go.ff, fun b u hb hn => ?_, fun b u hb => ?_, fun b q1 q2 => ?_⟩, r.ba, fun i c hc => ?_, r.sep, r.io, r.len⟩
  · have hba : b ≠ a := fun z => by subst z; rw [h4] at hb; cases hb
    rw [upd_ne hba]
    exact r.go.hh b u hb hn
  · rw [upd_ne (ne_of_none hb h1)]
    exact r.fh b u hb
  · obtain ⟨z1, z2⟩ := r.go.st b q1 q2
    refine ⟨z1, ?_⟩
    by_cases hba : b = a
    · subst hba; rw [upd_same]; rfl
    · rw [upd_ne hba]; exact z2
  · obtain ⟨v, g1, g2⟩ := r.at_ i c hc
    refine ⟨v, g1, ?_⟩
    rcases g2 with g2 | ⟨b, u, xs, rfl, z1, z2, z3, z4, z5⟩
    · exact .inl g2
    · have hba : b ≠ a := fun z => by
        subst z
        exact h3 ⟨i, c, hc, z3.ow, g1⟩
      exact .inr ⟨b, u, xs, rfl, z1, by rw [upd_ne hba]; exact z2, z3, z4, z5⟩
theorem kd_frozen {c c' : Ce} (h : c'.kd = c.kd) : c'.ow = c.ow := (kd_ow h).1
theorem all_frozen_sh (sh : e1.map (Option.map Ce.kd) = e.map (Option.map Ce.kd)) (h : vs.all (frozenAt e) = true) : vs.all (frozenAt e1) = true := by
  rw [List.all_eq_true] at h ⊢
  intro i hi
  have := h i hi
  unfold frozenAt at this ⊢
  cases q : e1[i]? with
  | none => rfl
  | some oc =>
    cases oc with
    | none => rfl
    | some c =>
      obtain ⟨c', g1, g2⟩ := sh_at sh.symm q
      rw [g1] at this
      simpa [kd_frozen g2] using this
theorem wipe_sh (sh : e1.map (Option.map Ce.kd) = e.map (Option.map Ce.kd)) : (wipeE e1 vs).map (Option.map Ce.kd) = (wipeE e vs).map (Option.map Ce.kd) := by
  apply List.ext_getElem?
  intro j
  have h1 : (e1.map (Option.map Ce.kd))[j]? = (e.map (Option.map Ce.kd))[j]? := by rw [sh]
  rw [List.getElem?_map, List.getElem?_map] at h1 ⊢
  rw [wipeE_get, wipeE_get]
  by_cases hv : j ∈ vs
  · rw [if_pos hv, if_pos hv]
    cases q1 : e1[j]? with
    | none => rw [q1] at h1; cases q2 : e[j]? with
      | none => rfl
      | some _ => rw [q2] at h1; cases h1
    | some _ => rw [q1] at h1; cases q2 : e[j]? with
      | none => rw [q2] at h1; cases h1
      | some _ => rfl
  · rw [if_neg hv, if_neg hv]; exact h1
theorem lc_ok {src : M (List D)} {t : Tg} {c : M Bool} {m : M D} {Q : VK} (to : TgOk t is) (hs : ∀ i ∈ is, i ∈ vs) (h : tN K (mComp src t vs c m) σ H Q) : tLc (tI K src) (tG K t is) (tT K c) (tF K m) vs σ H Q := by
  obtain ⟨G, F, e, cell, e', r, hm, q⟩ := h
  obtain ⟨ds, e1, h1, hm⟩ := bind_ok2 hm
  obtain ⟨⟨xs, e3⟩, h2, hm⟩ := Rs.bind_eq hm
  cases hm
  refine ⟨G, F, e, ds, e1, r, h1, fun J F1 H1 n wk D hD => ?_⟩
  have fr0 : vs.all (frozenAt e1) = true := by
    cases ds with
    | nil => unfold cLoop at h2; exact (ite_ok h2).1
    | cons d ds => unfold cLoop at h2; exact (ite_ok h2).1
  have F1D : F1 D = none := ex_none n.r.fh hD
  obtain ⟨DnL, DGH, DGF, _⟩ := n.r.new hD
  have go0 : Go F1 H1 F1 (upd H1 D (.lst [])) noA := Go.newO n.r.fh hD
  refine ⟨fun i m' H' => m' = ds.length - i ∧ i ≤ ds.length ∧ ∃ (F2 : Hp) (e2 : En) (acc : List DL.D) (va : List V), R K G F2 H' (L2.wipe σ vs) (wipeE e2 vs) ∧ e2.length = e1.length ∧ (wipeE e2 vs).map (Option.map Ce.kd) = (wipeE e1 vs).map (Option.map Ce.kd) ∧
      Go F1 H1 F2 H' (Lv σ e1) ∧ F2 D = none ∧ H' D = some (.lst va) ∧ DnA K F2 va acc ∧ cLoop t vs c m (ds.drop i) acc e2 = .ok (xs, e3),
    ⟨ds.length, by omega, Nat.zero_le _, F1, e1, [], [], ((n.r.wipe fr0).step go0).r, rfl, rfl, go0.any, F1D, upd_same, .nil, by rw [List.drop_zero]; exact h2⟩, ?_⟩
  rintro i m' H' ⟨rfl, hi, F2, e2, acc, va, r2, len2, sh2, go2, FD, HD, da, hc⟩
  obtain ⟨w1, w2⟩ := wk i F2 H' go2.ff r2.fh
  -- the list is no slot's
  have notLv : ∀ (e4 : En) (σ4 : L2.St), (∀ b, Lv σ4 e4 b → Lv σ e1 b) → ¬ Lv σ4 e4 D := fun e4 σ4 hh z => DnL (hh D z)
  have lvw : ∀ b, Lv (L2.wipe σ vs) (wipeE e2 vs) b → Lv σ e1 b := fun b ⟨j, cc, g1, g2, g3⟩ => by
    obtain ⟨c', g4, g5⟩ := sh_at sh2.symm g1
    rw [wipeE_get] at g4
    by_cases hv : j ∈ vs
    · rw [if_pos hv] at g4
      cases q : e1[j]? with
      | none => rw [q] at g4; cases g4
      | some o => rw [q] at g4; cases g4
    · rw [if_neg hv] at g4
      rw [wipe_get, if_neg hv] at g3
      exact ⟨j, c', g4, by rw [(kd_ow g5).1]; exact g2, g3⟩
  by_cases hlt : i < ds.length
  · have hd : ds[i]? = some ds[i] := List.getElem?_eq_getElem hlt
    obtain ⟨g1, g2⟩ := w1 _ hd
    rw [List.drop_eq_getElem_cons hlt] at hc
    unfold cLoop at hc
    obtain ⟨fr, hc⟩ := ite_ok hc
    obtain ⟨ea, ht, hc⟩ := Rs.bind_eq hc
    obtain ⟨⟨b, eb⟩, hcond, hc⟩ := Rs.bind_eq hc
    refine .inr ⟨g1, fun H'' => ∃ (F2 : Hp) (e2 : En) (acc : List DL.D) (va : List V), R K G F2 H'' (L2.wipe σ vs) (wipeE e2 vs) ∧ e2.length = e1.length ∧ (wipeE e2 vs).map (Option.map Ce.kd) = (wipeE e1 vs).map (Option.map Ce.kd) ∧
      Go F1 H1 F2 H'' (Lv σ e1) ∧ F2 D = none ∧ H'' D = some (.lst va) ∧ DnA K F2 va acc ∧ cLoop t vs c m (ds.drop (i + 1)) acc e2 = .ok (xs, e3), fun H'' q => ⟨ds.length - (i + 1), by omega, rfl, hlt, q⟩, fun x H3 y => ?_⟩
    obtain ⟨F3, go3, hx⟩ := g2 x H3 y
    have n3 := r2.step go3
    have len_a : ea.length = e1.length := by rw [to.ln _ _ _ ht, wipeE_len, len2]
    have fr_a : vs.all (frozenAt ea) = true := by
      rw [List.all_eq_true]
      intro j hj
      refine to.fz _ _ _ ht j (.inr ?_)
      unfold frozenAt
      rw [wipeE_get, if_pos hj]
      cases e2[j]? <;> rfl
    -- behind the target: what is of one's own is as it was
    have sh_a : (wipeE ea vs).map (Option.map Ce.kd) = (wipeE e1 vs).map (Option.map Ce.kd) := by
      rw [← sh2]
      apply List.ext_getElem?
      intro j
      rw [List.getElem?_map, List.getElem?_map, wipeE_get, wipeE_get]
      by_cases hv : j ∈ vs
      · rw [if_pos hv, if_pos hv]
        have : (ea[j]?).isSome = (e2[j]?).isSome := by
          by_cases hj : j < e1.length
          · rw [List.getElem?_eq_getElem (by omega), List.getElem?_eq_getElem (by omega)]
            try rfl
          · rw [List.getElem?_eq_none (by omega), List.getElem?_eq_none (by omega)]
            try rfl
        cases q1 : ea[j]? <;> cases q2 : e2[j]? <;> simp_all
      · rw [if_neg hv, if_neg hv, to.ne _ _ _ ht j (fun z => hv (hs j z)), wipeE_get, if_neg hv]
    refine ⟨G, F3, _, _, ea, n3.r, hx, ht, fun σ2 r4 chg => ⟨wipe_chg chg hs, G, F3, ea, b, eb, r4, hcond, fun F5 H5 n5 => ?_⟩⟩
    have wσ : L2.wipe σ2 vs = L2.wipe σ vs := wipe_chg chg hs
    have lva : ∀ b, Lv σ2 ea b → Lv σ e1 b := fun b ⟨j, cc, z1, z2, z3⟩ => by
      have hv : j ∉ vs := fun hv => by
        rw [fr_at fr_a hv z1] at z2; cases z2
      refine lvw b ⟨j, cc, ?_, z2, ?_⟩
      · rw [← to.ne _ _ _ ht j (fun z => hv (hs j z))]; exact z1
      · rw [← chg.2 j (fun z => hv (hs j z))]; exact z3
    have F3D : F3 D = none := (go3.st D FD (by rw [HD]; rfl)).1
    have H3D : H3 D = some (.lst va) := go3.hh D _ HD (fun z => z)
    have da3 := da.mono go3.ff
    have go13 : Go F1 H1 F3 H3 (Lv σ e1) := go2.trans go3.any
    have F5D : F5 D = none := (n5.go.st D F3D (by rw [H3D]; rfl)).1
    have H5D : H5 D = some (.lst va) := n5.go.hh D _ H3D (notLv ea σ2 lva)
    have go15 : Go F1 H1 F5 H5 (Lv σ e1) := go13.trans (n5.go.mono lva)
    have fr_b : vs.all (frozenAt eb) = true := all_frozen_sh n5.sh fr_a
    have len_b : eb.length = e1.length := by
      have := congrArg List.length n5.sh
      simp only [List.length_map] at this
      rw [this, len_a]
    cases b with
    | false =>
      refine iteF ?_
      dsimp only at hc
      rw [if_neg Bool.false_ne_true] at hc
      have rw5 := n5.r.wipe fr_b
      rw [wσ] at rw5
      exact ⟨F5, eb, acc, va, rw5, len_b, (wipe_sh n5.sh).trans sh_a, go15, F5D, H5D, da3.mono n5.go.ff, hc⟩
    | true =>
      refine iteT ?_
      dsimp only at hc
      rw [if_pos rfl] at hc
      obtain ⟨⟨z, ec⟩, hm, hc⟩ := Rs.bind_eq hc
      obtain ⟨hz, hc⟩ := ite_ok hc
      refine ⟨G, F5, eb, z, ec, n5.r, hm, fun v F6 H6 n6 hv => ?_⟩
      have lvb : ∀ b, Lv σ2 eb b → Lv σ e1 b := fun b hb => lva b (sh_lv n5.sh hb)
      have F6D : F6 D = none := (n6.go.st D F5D (by rw [H5D]; rfl)).1
      have H6D : H6 D = some (.lst va) := n6.go.hh D _ H5D (notLv eb σ2 lvb)
      have go16 : Go F1 H1 F6 H6 (Lv σ e1) := go15.trans (n6.go.mono lvb)
      have fr_c : vs.all (frozenAt ec) = true := all_frozen_sh n6.sh fr_b
      have len_c : ec.length = e1.length := by
        have := congrArg List.length n6.sh
        simp only [List.length_map] at this
        rw [this, len_b]
      have da6 := (da3.mono n5.go.ff).mono n6.go.ff
      refine ⟨va, H6D, by rw [da6.len]; exact small_line hz, F6, ec, acc ++ [z], va ++ [v], ?_, len_c, ((wipe_sh n6.sh).trans (wipe_sh n5.sh)).trans sh_a, ?_, F6D, upd_same, da6.app (.cons hv .nil), hc⟩
      · have rw6 := n6.r.wipe fr_c
        rw [wσ] at rw6
        refine rw6.other F6D (by rw [H6D]; rfl) (fun z => ?_) DGH
        obtain ⟨j, cc, z1, z2, z3⟩ := z
        have hv : j ∉ vs := fun hv => by
          rw [wipeE_get, if_pos hv] at z1
          cases q : ec[j]? with
          | none => rw [q] at z1; cases z1
          | some o => rw [q] at z1; cases z1
        rw [wipeE_get, if_neg hv] at z1
        refine notLv ec σ2 (fun b hb => lvb b (sh_lv n6.sh hb)) ⟨j, cc, z1, z2, ?_⟩
        rw [wipe_get, if_neg hv] at z3
        rw [chg.2 j (fun z => hv (hs j z)), wipe_get, if_neg hv]
        exact z3
      · refine ⟨go16.ff, fun b u hb hn => ?_, fun b u hb => ?_, fun b q1 q2 => ?_⟩
        · have hbD : b ≠ D := fun z => by subst z; rw [hD] at hb; cases hb
          rw [upd_ne hbD]
          exact go16.hh b u hb hn
        · rw [upd_ne (ne_of_none hb F6D)]
          exact go16.fh b u hb
        · have hbD : b ≠ D := fun z => by subst z; rw [hD] at q2; cases q2
          rw [upd_ne hbD]
          exact go16.st b q1 q2
  · have e4 : i = ds.length := by omega
    subst e4
    rw [List.drop_length] at hc
    unfold cLoop at hc
    obtain ⟨fr, hc⟩ := ite_ok hc
    have hc1 := congrArg Prod.fst (Rs.ok.inj hc)
    have hc2 := congrArg Prod.snd (Rs.ok.inj hc)
    dsimp only at hc1 hc2
    subst hc1 hc2
    refine .inl ⟨w2 (List.getElem?_eq_none (Nat.le_refl _)), ?_⟩
    have rr := R.unwipe r2 n.r go2.ff fr0 len2
    refine q (.ref D) F2 H' (n.trans ⟨rr, go2, ?_⟩) (.inr ⟨rfl, D, _, va, rfl, n.go.old r.fh hD, FD, HD, rfl, da⟩)
    apply List.ext_getElem?
    intro j
    have h1 : ((wipeE e2 vs).map (Option.map Ce.kd))[j]? = ((wipeE e1 vs).map (Option.map Ce.kd))[j]? := by rw [sh2]
    rw [List.getElem?_map, List.getElem?_map] at h1 ⊢
    rw [wipeE_get, wipeE_get] at h1
    rw [restE_get e1 e2 len2]
    by_cases hv : j ∈ vs
    · rw [if_pos hv]
    · rw [if_neg hv, if_neg hv] at h1
      rw [if_neg hv]
      exact h1
end
section
variable {X : Cx} {ex elt tg iter : Expr} {ifs : List Expr} {scope : Scope} {own : List (Str × Nat)} {pos spos py : Pos} {src : M (List D)} {t : Tg} {is : List Nat} {c : M Bool} {m : M D} {i : Nat} {y : Str}
abbrev PTsd (X : Cx) (ifs : List Expr) (m : M Bool) : Prop := PTs X ifs (tT X.K m)
theorem PTsimp {t t' : TT} (h : PTs X ifs t) (hi : ∀ σ H Q, t' σ H Q → t σ H Q) : PTs X ifs t' := ⟨fun pins s σ H Q I q => h.run pins s σ H Q I (hi σ H Q q)⟩
theorem ptsd_nil : PTsd X [] mYes := PTsimp pts_nil fun σ H Q ⟨G, F, e, b, e', r, hm, q⟩ => by
  cases hm
  exact q F H (Nx.refl r)
theorem ptsd_one {a : M Bool} (h : PTd X ex a) : PTsd X [ex] a := pts_one h
theorem pn_lc (hc : X.calm = true) (hN : X.N.Nodup) (hi : PId X tg iter src) (ok : BlkOk X.N X.env.scope scope own) (to : TgOk t is) (hsub : ∀ i ∈ is, i ∈ own.map (·.2))
    (hg : ∀ (s : Shared) (H : Hp) (C : Addr) (cl : List (Str × Addr)) (fp : List Addr), PGd (X.blk s H scope (compEnvC scope cl C X.env) fp) tg t is) (ht : ∀ (s : Shared) (H : Hp) (C : Addr) (cl : List (Str × Addr)) (fp : List Addr), PTsd (X.blk s H scope (compEnvC scope cl C X.env) fp) ifs c)
    (he : ∀ (s : Shared) (H : Hp) (C : Addr) (cl : List (Str × Addr)) (fp : List Addr), PF (X.blk s H scope (compEnvC scope cl C X.env) fp) elt m) (hs : ∀ x, foldedSetIterable iter X.env x = pure x := by intro _; rfl) :
    PN X (.ListComp elt [⟨tg, iter, ifs, 0⟩] scope pos) (mComp src t (own.map (·.2)) c m) :=
  PEimp (pe_lc hc hN hi ok hg ht he hs) fun σ H Q h => lc_ok to hsub h
/-- y = [..], all on one line -/
theorem pds_setLc (hc : X.calm = true) (hN : X.N.Nodup) (hy : X.N[i]? = some y) (hyl : X.env.scope.names.lookup y = some .local) (hsw : swapsWith (.ListComp elt [⟨tg, iter, ifs, 0⟩] scope pos) (some (.Name y py)) spos.line X.env = pure true)
    (hi : PId X tg iter src) (ok : BlkOk X.N X.env.scope scope own) (to : TgOk t is) (hsub : ∀ i ∈ is, i ∈ own.map (·.2))
    (hg : ∀ (s : Shared) (H : Hp) (C : Addr) (cl : List (Str × Addr)) (fp : List Addr), PGd (X.blk s H scope (compEnvC scope cl C X.env) fp) tg t is) (ht : ∀ (s : Shared) (H : Hp) (C : Addr) (cl : List (Str × Addr)) (fp : List Addr), PTsd (X.blk s H scope (compEnvC scope cl C X.env) fp) ifs c)
    (he : ∀ (s : Shared) (H : Hp) (C : Addr) (cl : List (Str × Addr)) (fp : List Addr), PF (X.blk s H scope (compEnvC scope cl C X.env) fp) elt m) (hs : ∀ x, foldedSetIterable iter X.env x = pure x := by intro _; rfl) :
    PDS X (.Assign [.Name y py] (.ListComp elt [⟨tg, iter, ifs, 0⟩] scope pos) spos) (sAsg i (mComp src t (own.map (·.2)) c m)) :=
  PSimp (ps_setLc hc hN hy hyl hsw hi ok hg ht he hs) fun E σ H h => by
    have h2 := asg_ok h
    exact lc_ok (c := c) (m := m) to hsub h2
theorem pds_setLcF (hc : X.calm = true) (hN : X.N.Nodup) (hy : X.N[i]? = some y) (hyl : X.env.scope.names.lookup y = some .local) (hsw : swapsWith (.ListComp elt [⟨tg, iter, ifs, 0⟩] scope pos) (some (.Name y py)) spos.line X.env = pure true)
    (hi : PId X tg iter src) (ok : BlkOk X.N X.env.scope scope own) (to : TgOk t is) (hsub : ∀ i ∈ is, i ∈ own.map (·.2))
    (hg : ∀ (s : Shared) (H : Hp) (C : Addr) (cl : List (Str × Addr)) (fp : List Addr), PGd (X.blk s H scope (compEnvC scope cl C X.env) fp) tg t is) (ht : ∀ (s : Shared) (H : Hp) (C : Addr) (cl : List (Str × Addr)) (fp : List Addr), PTsd (X.blk s H scope (compEnvC scope cl C X.env) fp) ifs c)
    (he : ∀ (s : Shared) (H : Hp) (C : Addr) (cl : List (Str × Addr)) (fp : List Addr), PF (X.blk s H scope (compEnvC scope cl C X.env) fp) elt m) (hs : ∀ x, foldedSetIterable iter X.env x = pure x := by intro _; rfl) :
    PDS X (.Assign [.Name y py] (.ListComp elt [⟨tg, iter, ifs, 0⟩] scope pos) spos) (sAsgF i (mZ (mComp src t (own.map (·.2)) c m))) :=
  PSimp (ps_setLc hc hN hy hyl hsw hi ok hg ht he hs) fun E σ H h => by
    have h2 := asgF_ok h
    refine lc_ok (c := c) (m := m) to hsub ?_
    obtain ⟨G, F, e, d, e', r, hm, q⟩ := h2
    obtain ⟨c, e1, h1, h2⟩ := bind_ok2 hm
    cases h2
    refine ⟨G, F, e, c, _, r, h1, fun v F' H' n hn => ?_⟩
    obtain ⟨F2, n2, _, hd⟩ := hn.frz r n
    exact q v F2 H' n2 hd
end
end DL

namespace DL
open PySem L2 PyProof.Rows

/-! ### dicts as data -/
def dFind : List D → List D → D → Option D
  | k' :: ks, v :: vs, k => if D.eqb k' k = true then some v else dFind ks vs k
  | _, _, _ => none
def dHas (ks : List D) (k : D) : Bool := ks.any fun k' => D.eqb k' k
def dPutV : List D → List D → D → D → List D
  | k' :: ks, v' :: vs, k, v => (if D.eqb k' k = true then v else v') :: dPutV ks vs k v
  | _, vs, _, _ => vs
def dPutK (ks : List D) (k : D) : List D := if dHas ks k = true then ks else ks ++ [k]
def dPutW (ks vs : List D) (k v : D) : List D := if dHas ks k = true then dPutV ks vs k v else vs ++ [v]
/-- a key: an int, a text; or a tuple of such -/
def D.key : D → Option Key
  | .int i => some (.inl i)
  | .str s => some (.inr s)
  | _ => Option.none
def keysA : List D → Option (List Key)
  | [] => some []
  | d :: ds => match d.key, keysA ds with
    | some k, some ks => some (k :: ks)
    | _, _ => none
def D.keyT : D → Option (List Key)
  | .tuple ds => keysA ds
  | _ => Option.none
theorem key_kD {d : D} {k : Key} (h : d.key = some k) : d = kD k := by
  cases d <;> first
    | (cases h; done)
    | (cases h; rfl)
theorem keysA_kD : ∀ {ds : List D} {ks : List Key}, keysA ds = some ks → ds = ks.map kD
  | [], ks, h => by cases h; rfl
  | d :: ds, ks, h => by
    unfold keysA at h
    split at h
    · rename_i k ks' h1 h2
      cases h
      rw [key_kD h1, keysA_kD h2]
      rfl
    · cases h
theorem keyT_kD {d : D} {ks : List Key} (h : d.keyT = some ks) : d = .tuple (ks.map kD) := by
  cases d <;> first
    | (cases h; done)
    | (rw [keysA_kD (show keysA _ = some ks from h)])
theorem eqb_kD (a b : Key) : D.eqb (kD a) (kD b) = decide (a = b) := by
  cases a <;> cases b <;> simp [kD, D.eqb] <;> first
    | (rename_i x y; by_cases e : x = y <;> simp [e])
    | rfl
theorem eqbA_kD : ∀ (a b : List Key), D.eqbA (a.map kD) (b.map kD) = decide (a = b)
  | [], [] => by simp [D.eqbA]
  | [], _ :: _ => by simp [D.eqbA]
  | _ :: _, [] => by simp [D.eqbA]
  | x :: a, y :: b => by
    simp only [List.map_cons, D.eqbA, eqb_kD, eqbA_kD a b]
    by_cases h1 : x = y <;> by_cases h2 : a = b <;> simp [h1, h2]
section
variable {K : PySem.W.Frag} {F H F' H' : Hp}
/-- a dict's items against its data, whatever its keys' sort -/
theorem find_data {κ : Type} [DecidableEq κ] (enc : κ → D) (he : ∀ a b, D.eqb (enc a) (enc b) = decide (a = b)) (k : κ) : ∀ {kvs : List (κ × V)} {vs : List D}, DnA K F (kvs.map (·.2)) vs →
    match dFind (kvs.map fun p => enc p.1) vs (enc k) with
    | some d => ∃ v, valV kvs k = some v ∧ Dn K F v d
    | none => valV kvs k = none
  | [], vs, h => by
    cases h
    rfl
  | p :: kvs, vs, h => by
    cases h with
    | @cons v _ d ds hd ha =>
      simp only [List.map_cons, dFind, he]
      by_cases e : p.1 = k
      · simp only [e, decide_true, if_true]
        exact ⟨p.2, valV_pos e, hd⟩
      · simp only [e, decide_false, Bool.false_eq_true, if_false]
        have := find_data enc he k ha
        rw [valV_neg e]
        exact this
theorem has_data {κ : Type} [DecidableEq κ] (enc : κ → D) (he : ∀ a b, D.eqb (enc a) (enc b) = decide (a = b)) (k : κ) (kvs : List (κ × V)) : dHas (kvs.map fun p => enc p.1) (enc k) = (valV kvs k).isSome := by
  rw [← valV_any]
  unfold dHas
  rw [List.any_map]
  congr 1
  funext p
  exact he _ _
theorem put_data {κ : Type} [DecidableEq κ] (enc : κ → D) (he : ∀ a b, D.eqb (enc a) (enc b) = decide (a = b)) (k : κ) {v : V} {d : D} (hd : Dn K F v d) {kvs : List (κ × V)} {vs : List D} (h : DnA K F (kvs.map (·.2)) vs) :
    (putK kvs k v).map (fun p => enc p.1) = dPutK (kvs.map fun p => enc p.1) (enc k) ∧ DnA K F ((putK kvs k v).map (·.2)) (dPutW (kvs.map fun p => enc p.1) vs (enc k) d) := by
  unfold putK dPutK dPutW
  rw [has_data enc he, ← valV_any]
  by_cases hk : (kvs.any fun kv => decide (kv.1 = k)) = true
  · rw [if_pos hk, if_pos hk, if_pos hk]
    refine ⟨?_, ?_⟩
    · rw [List.map_map]
      congr 1
      funext p
      simp only [Function.comp]
      split <;> rfl
    · clear hk
      induction kvs generalizing vs with
      | nil => cases h; exact .nil
      | cons p kvs ih =>
        cases h with
        | @cons _ _ d' ds hd' ha =>
          simp only [List.map_cons, dPutV, he]
          refine .cons ?_ (ih ha)
          by_cases e : p.1 = k
          · simp only [e, decide_true, if_true]; exact hd
          · simp only [e, decide_false, Bool.false_eq_true, if_false]; exact hd'
  · rw [if_neg hk, if_neg hk, if_neg hk]
    refine ⟨by simp, ?_⟩
    rw [List.map_append]
    exact h.app (.cons hd .nil)
abbrev encT : List Key → D := fun ks => .tuple (ks.map kD)
theorem encT_eq (a b : List Key) : D.eqb (encT a) (encT b) = decide (a = b) := by
  show D.eqb (.tuple _) (.tuple _) = _
  unfold D.eqb
  exact eqbA_kD a b
theorem dna_keys : ∀ {ks : List Key} {xs : List V}, DnA K F xs (ks.map kD) → xs = ks.map kV
  | [], xs, h => by cases h; rfl
  | k :: ks, xs, h => by
    cases h with
    | cons h ha =>
      rw [dna_keys ha]
      cases k with
      | inl i => rw [show _ = _ from h.int_inv]; rfl
      | inr s => rw [show _ = _ from h.str_inv]; rfl
/-- the key in a dict of this sort (t: keys that are tuples) -/
def keyOk (t : Bool) (k : D) : Bool := if t = true then false else k.key.isSome
/-- a key's look-up in an object that is a dict -/
theorem dget_data {t : Bool} {a : Addr} {o : HO} {ks vs : List D} {xs : List V} {k : D} {y : V} (fh : Ex F H) (ha : H a = some o) (hc : DcO t o ks xs) (hd : DnA K F xs vs) (hk : keyOk t k = true) (hy : Dn K F y k) :
    ∃ r, DGet H a y r ∧ r.isSome = dHas ks k ∧ match dFind ks vs k with
      | some d => ∃ v, r = some v ∧ Dn K F v d
      | none => r = none := by
  rcases hc with ⟨rfl, kvs, rfl, rfl, rfl⟩ | ⟨rfl, kvs, rfl, rfl, rfl⟩
  · unfold keyOk at hk
    rw [if_neg Bool.false_ne_true] at hk
    obtain ⟨kk, e⟩ := Option.isSome_iff_exists.mp hk
    rw [key_kD e] at hy ⊢
    have hyv : y = kV kk := by
      cases kk with
      | inl i => exact hy.int_inv
      | inr s => exact hy.str_inv
    rw [hyv]
    refine ⟨_, DGet.k ha, (has_data kD eqb_kD kk kvs).symm, ?_⟩
    have := find_data kD eqb_kD kk hd
    exact this
  · unfold keyOk at hk
    rw [if_pos rfl] at hk
    cases hk
theorem dput_data {p t : Bool} {a : Addr} {o : HO} {ks vs : List D} {xs : List V} {k d : D} {y v : V} (fh : Ex F H) (ha : H a = some o) (hc : DcO t o ks xs) (hd : DnA K F xs vs) (hk : keyOk t k = true) (hy : Dn K F y k) (hv : Dn K F v d) (hz : ks.length < 16000000) :
    ∃ o' xs', DPut H a y v (upd H a o') ∧ CeO o' (.k p t (dPutK ks k) (dPutW ks vs k d)) xs' ∧ DnA K F xs' (dPutW ks vs k d) := by
  rcases hc with ⟨rfl, kvs, rfl, rfl, rfl⟩ | ⟨rfl, kvs, rfl, rfl, rfl⟩
  · unfold keyOk at hk
    rw [if_neg Bool.false_ne_true] at hk
    obtain ⟨kk, e⟩ := Option.isSome_iff_exists.mp hk
    rw [key_kD e] at hy ⊢
    have hyv : y = kV kk := by
      cases kk with
      | inl i => exact hy.int_inv
      | inr s => exact hy.str_inv
    rw [hyv]
    obtain ⟨e1, e2⟩ := put_data kD eqb_kD kk hv hd
    exact ⟨_, _, DPut.k ha (small_line (by simpa using hz)), .inl ⟨rfl, putK kvs kk v, rfl, e1, rfl⟩, e2⟩
  · unfold keyOk at hk
    rw [if_pos rfl] at hk
    cases hk
end
/-! ### rules for dicts -/
/-- {} (t: its keys will be tuples) -/
def mDNew (t : Bool) : M Ce := fun e => .ok (.k false t [] [], e)
def sDPut (i : Nat) (mk mv : M D) : En → Out := fun e => onR (mv e) fun v e1 => match e1[i]? with
  | some (some (.k _ _ _ _)) => onR (mk e1) fun k e2 => (match e2[i]? with
    | some (some (.k p t ks vs)) => if (keyOk t k = true ∧ ks.length < 16000000) then .nx (e2.set i (some (.k p t (dPutK ks k) (dPutW ks vs k v)))) else .no
    | _ => .no)
  | _ => .no
def dgetD : D → D → Rs Ce
  | .dict t ks vs, k => if keyOk t k = true then (match dFind ks vs k with
    | some d => .ok (.f d)
    | none => .no) else .no
  | _, _ => .no
section
variable {X : Cx} {K : PySem.W.Frag} {G : Bs} {F F1 H H1 : Hp} {σ : L2.St} {e e1 : En} {E : Ends} {v : V} {c : Ce} {d : D} {i : Nat} {a : Addr}
variable {st : Stmt} {sts : List Stmt} {ex ey ez tg : Expr} {es : List Expr} {pos pos' apos cpos : Pos} {x : Str}
theorem pn_dnewK : PN X (.Dict [] [] pos) (mDNew false) := PEimp pe_dnewK fun σ H Q ⟨G, F, e, c, e', r, hm, q⟩ => by
  cases hm
  intro p hp
  exact q _ F _ (r.step (Go.newO r.fh hp)) (.inr ⟨rfl, p, _, [], rfl, hp, ex_none r.fh hp, upd_same, .inl ⟨rfl, [], rfl, rfl, rfl⟩, .nil⟩)
theorem pn_dnewT : PN X (.Dict [] [] pos) (mDNew true) := PEimp pe_dnewT fun σ H Q ⟨G, F, e, c, e', r, hm, q⟩ => by
  cases hm
  intro p hp
  exact q _ F _ (r.step (Go.newO r.fh hp)) (.inr ⟨rfl, p, _, [], rfl, hp, ex_none r.fh hp, upd_same, .inr ⟨rfl, [], rfl, rfl, rfl⟩, .nil⟩)
theorem dict_at (h : e[i]? = some (some c)) (r : R K G F H σ e) {p t : Bool} {ks vs : List D} (hc : c = .k p t ks vs) : ∃ a o xs, σ[i]? = some (some (.ref a)) ∧ F a = none ∧ H a = some o ∧ DcO t o ks xs ∧ DnA K F xs vs := by
  subst hc
  obtain ⟨v0, s0, a0⟩ := r.at_ i _ h
  obtain ⟨a, o, xs, rfl, z1, z2, z3, z4, _⟩ := a0.own rfl
  exact ⟨a, o, xs, s0, z1, z2, z3, z4⟩
theorem pds_dput {mk mv : M D} (hu : X.A.units + 1 < cLine) (ho : PE X ex (tVar i)) (hi : PF X ey mk) (hv : PF X ez mv) (hs : swapsWith ez (some (.Subscript ex ey pos')) pos.line X.env = pure false := by rfl) :
    PDS X (.Assign [.Subscript ex ey pos'] ez pos) (sDPut i mk mv) := PSimp (ps_dput hu ho hi hv hs) fun E σ H ⟨G, F, e, r, hp⟩ => by
  obtain ⟨dv, e1, h1, hp⟩ := onR_inv hp
  refine ⟨G, F, e, dv, e1, r, h1, fun v F1 H1 n1 hdv => ?_⟩
  split at hp
  · rename_i p0 t0 ks0 vs0 g0
    obtain ⟨dk, e2, h2, hp⟩ := onR_inv hp
    obtain ⟨a, o0, xs0, s0, _⟩ := dict_at g0 n1.r rfl
    refine ⟨.ref a, s0, G, F1, e1, dk, e2, n1.r, h2, fun y F2 H2 n2 hdk => ?_⟩
    split at hp
    · rename_i p t ks vs g2
      by_cases hz : keyOk t dk = true ∧ ks.length < 16000000
      · rw [if_pos hz] at hp
        obtain ⟨a', o, xs, s1, y1, y2, y3, y4⟩ := dict_at g2 n2.r rfl
        rw [s0] at s1
        cases s1
        obtain ⟨o', xs', hput, hce, hdn⟩ := dput_data (p := p) n2.r.fh y2 y3 y4 hz.1 hdk (n2.dn hdv) hz.2
        refine ⟨a, _, rfl, hput, ?_⟩
        have n3 := n2.r.wr (c' := .k p t (dPutK ks dk) (dPutW ks vs dk dv)) g2 s0 rfl (by cases p <;> cases t <;> rfl) hce hdn
        exact hp F2 _ σ n3.r (n1.go.ff.trans n2.go.ff)
      · rw [if_neg hz] at hp
        exact hp.elim
    · exact hp.elim
  · exact hp.elim
/-- d[k], the key there -/
theorem pf_dget {md : M Hd} {mk : M D} (hu : X.A.units + 1 < cLine) (ho : PH X ex md) (hi : PF X ey mk) (hs : NoSl ey) : PN X (.Subscript ex ey pos) (m2 dgetD md (mH (mN mk))) := PEimp (pe_dget hu ho (ph_f hi) hs) fun σ H Q ⟨G, F, e, c, e', r, hm, q⟩ => by
  obtain ⟨x, e1, h1, hm⟩ := bind_ok2 hm
  obtain ⟨y, e2, h2, hm⟩ := bind_ok2 hm
  obtain ⟨dx, h3, hm⟩ := Rs.bind_eq hm
  obtain ⟨dy, h4, hm⟩ := Rs.bind_eq hm
  obtain ⟨c', h5, hm⟩ := Rs.bind_eq hm
  cases hm
  refine ⟨G, F, e, x, e1, r, h1, fun vx F1 H1 n1 hx => ⟨G, F1, e1, y, _, n1.r, h2, fun vy F2 H2 n2 hy => ?_⟩⟩
  obtain ⟨cy, e3, h6, h7⟩ := bind_ok2 h2
  obtain ⟨dk, e4, h8, h9⟩ := bind_ok2 h6
  cases h9
  cases h7
  cases h4
  have hdk : Dn X.K F2 vy dk := by
    rcases hy with ⟨d, q1, q2⟩ | ⟨_, a, o, xs, _, _, _, _, _, q1, _⟩
    · cases q1; exact q2
    · exact q1.elim
  have hdx : ∃ t ks vs, dx = .dict t ks vs := by
    cases dx <;> first
      | exact ⟨_, _, _, rfl⟩
      | (cases h5; done)
  obtain ⟨t, ks, vs, rfl⟩ := hdx
  unfold dgetD at h5
  obtain ⟨hk, h5⟩ := ite_ok h5
  obtain ⟨a, o, xs, rfl, q1, q2, q3⟩ := ((hx.nx n2).vw n2.r h3).dict n2.r.fh
  obtain ⟨rr, g1, g2, g3⟩ := dget_data n2.r.fh q1 q2 q3 hk hdk
  split at h5
  · rename_i d hf
    cases h5
    simp only [hf] at g3
    obtain ⟨w, rfl, g4⟩ := g3
    exact ⟨a, w, rfl, g1, q w F2 H2 (n1.trans n2) (.inl ⟨d, rfl, g4⟩)⟩
  · cases h5
/-! ### two at once: x, y = a, b, new lists and dicts too -/
def sParN (i j : Nat) (ma mb : M Ce) : En → Out := fun e => onR (ma e) fun c1 e1 => onR (mb e1) fun c2 e2 => if (ioAt e2 i || ioAt e2 j) = true then .no else .nx ((e2.set i (some c1)).set j (some c2))
theorem ioAt_setN {i j : Nat} (hc : c.io = false) (h : ioAt e j = false) : ioAt (e.set i (some c)) j = false := by
  unfold ioAt at h ⊢
  by_cases hj : j = i
  · subst hj
    by_cases hl : j < e.length
    · rw [List.getElem?_set_self hl]; exact hc
    · rw [List.getElem?_eq_none (by simpa using Nat.le_of_not_lt hl)]
  · rw [List.getElem?_set_ne (Ne.symm hj)]; exact h
theorem NAt.io {H F' H' : Hp} (h : NAt K H F' H' c v) : c.io = false := by
  rcases h with ⟨d, rfl, _⟩ | ⟨h, _⟩
  · rfl
  · exact h
theorem pds_parN {i j : Nat} {x y : Str} {px py pt : Pos} {kt k2 : Nat} {pt2 : Pos} {ma mb : M Ce} (hc : X.calm = true) (hN : X.N.Nodup) (hi : X.N[i]? = some x) (hj : X.N[j]? = some y) (hij : i ≠ j)
    (hx : X.env.scope.names.lookup x = some .local) (hy : X.env.scope.names.lookup y = some .local) (ha : PN X ex ma) (hb : PN X ey mb)
    (hw : swappedStores [.Tuple [.Name x px, .Name y py] kt pt] (.Tuple [ex, ey] k2 pt2) X.env = pure (some [x, y]))
    (hs1 : starEach [ex, ey] X.env = (false, eval ex X.env) :: starEach [ey] X.env := by rfl) (hs2 : starEach [ey] X.env = (false, eval ey X.env) :: starEach [] X.env := by rfl)
    (hs : swapsWithSole [.Tuple [.Name x px, .Name y py] kt pt] (.Tuple [ex, ey] k2 pt2) pos.line X.env = pure false := by rfl) : PDS X (.Assign [.Tuple [.Name x px, .Name y py] kt pt] (.Tuple [ex, ey] k2 pt2) pos) (sParN i j ma mb) :=
  PSimp (ps_par hc hN hi hj hij hx hy (pa_cons ha (pa_cons hb pa_nil hs2) hs1) hw hs) fun E σ H ⟨G, F, e, r, hp⟩ => by
    obtain ⟨c1, e1, h1, hp⟩ := onR_inv hp
    obtain ⟨c2, e2, h2, hp⟩ := onR_inv hp
    obtain ⟨hio, hp⟩ := post_ite hp
    obtain ⟨h3, h4⟩ := Bool.or_eq_false_iff.mp hio
    refine ⟨G, F, e, c1, e1, r, h1, fun v1 F1 H1 n1 a1 => ⟨G, F1, e1, c2, e2, n1.r, h2, fun v2 F2 H2 n2 a2 => ⟨v1, v2, rfl, ?_⟩⟩⟩
    have hat1 := (a1.hat r n1).nx n2
    have r1 := n2.r.set (i := i) h3 hat1
    refine hp F2 H2 _ (r1.set (i := j) (ioAt_setN a1.io h4) ?_) (n1.go.ff.trans n2.go.ff)
    rcases a2 with ⟨d, q1, q2⟩ | ⟨q1, a, o, xs, rfl, q2, q3, q4, q5, q6⟩
    · exact .inl ⟨d, q1, q2⟩
    · obtain ⟨z1, z2, _⟩ := n1.r.new q2
      refine .inr ⟨q1, a, o, xs, rfl, z2, q3, q4, fun ⟨k, ck, g1, g2, g3⟩ => ?_, q5, q6⟩
      by_cases hk : k = i
      · subst hk
        have hl : k < e2.length := by
          have := (List.getElem?_eq_some_iff.mp g1).1
          simpa using this
        rw [List.getElem?_set_self hl] at g1
        cases g1
        rw [List.getElem?_set_self (by rw [← n2.r.len]; exact hl)] at g3
        cases g3
        rcases a1 with ⟨d, q7, _⟩ | ⟨_, b, u, ys, q7, w1, w2, w3, _⟩
        · rw [q7] at g2; cases g2
        · cases q7
          rw [q2] at w3
          cases w3
      · rw [List.getElem?_set_ne (Ne.symm hk)] at g1 g3
        exact z1 (sh_lv n2.sh ⟨k, ck, g1, g2, g3⟩)
/-! ### x[i] = e, x a list of one's own -/
def sLPut (i : Nat) (mj mv : M D) : En → Out := fun e => onR (mv e) fun v e1 => match e1[i]? with
  | some (some (.l _ _)) => onR (mj e1) fun k e2 => (match e2[i]?, k with
    | some (some (.l p ds)), .int j => (match ixN ds.length j with
      | some jj => .nx (e2.set i (some (.l p (ds.set jj v))))
      | none => .no)
    | _, _ => .no)
  | _ => .no
theorem pds_lput {mj mv : M D} (ho : PE X ex (tVar i)) (hi : PF X ey mj) (hv : PF X ez mv) (hs : swapsWithSole [.Subscript ex ey pos'] ez pos.line X.env = pure false := by rfl) (hw : swappedStores [.Subscript ex ey pos'] ez X.env = pure none := by rfl)
    (h1 : (assignEach [.Subscript ex ey pos'] X.env).map (·.2) = [assign (.Subscript ex ey pos') X.env] := by rfl)
    (ha : ∀ v, assign (.Subscript ex ey pos') X.env v = (do
      let ov ← holding [v] (eval ex X.env)
      let iv ← holding [v, ov] (eval ey X.env)
      standAt pos'
      holding [v, ov, iv] (setItem ov iv v)
      release [v, ov, iv] []) := by intro _; rfl) :
    PDS X (.Assign [.Subscript ex ey pos'] ez pos) (sLPut i mj mv) := PSimp (ps_asg hv (pg_sub ho hi set_list ha) hs hw h1) fun E σ H ⟨G, F, e, r, hp⟩ => by
  obtain ⟨dv, e1, h1, hp⟩ := onR_inv hp
  refine ⟨G, F, e, dv, e1, r, h1, fun v F1 H1 n1 hdv => ?_⟩
  split at hp
  · rename_i p0 ds0 g0
    obtain ⟨dk, e2, h2, hp⟩ := onR_inv hp
    obtain ⟨a, xs0, s0, _⟩ := lst_at g0 n1.r rfl
    refine ⟨.ref a, s0, G, F1, e1, dk, e2, n1.r, h2, fun y F2 H2 n2 hdk => ?_⟩
    split at hp
    · rename_i p ds j g2
      split at hp
      · rename_i jj hj
        obtain ⟨a', xs, s1, y1, y2, y4⟩ := lst_at g2 n2.r rfl
        rw [s0] at s1
        cases s1
        refine ⟨a, xs, j, jj, rfl, hdk.int_inv, y2, by rw [y4.len]; exact hj, ?_⟩
        have n3 := n2.r.wr (c' := .l p (ds.set jj dv)) g2 s0 rfl (by cases p <;> rfl) (o' := .lst (xs.set jj v)) (xs' := xs.set jj v) rfl (y4.set jj (n2.dn hdv))
        exact hp F2 _ σ n3.r (n1.go.ff.trans n2.go.ff)
      · exact hp.elim
    · exact hp.elim
  · exact hp.elim
end
/-! ### built-in functions once more -/
section
variable {K : PySem.W.Frag} {F H F' H' : Hp}
def rLenA (K : PySem.W.Frag) : List V → Hp → VK → Prop := fun xs H Q => (∃ x n, xs = [x] ∧ LenV K x H n ∧ Q (.int n) H) ∨ (∃ a kvs, xs = [V.ref a] ∧ H a = some (.dK kvs) ∧ Q (.int kvs.length) H) ∨ rLenT xs H Q
theorem call_lenA {X : Cx} : CallR X (.builtin "len") (rLenA X.K) := call_len.or (call_lenD.or call_len_dT)
theorem snd_len : SndL K (rLenA K) lenD := fun F H xs ds c Q fh hx hg q => by
  unfold lenD at hg
  split at hg
  · obtain ⟨h1, hg⟩ := ite_ok hg
    cases hg
    obtain ⟨x, rfl, h⟩ := hx.one (ds := [])
    rw [h.str]
    exact .inl ⟨_, _, rfl, ⟨h1, rfl⟩, ret1 fh (.int _) rfl q⟩
  · cases hg
    obtain ⟨x, rfl, h⟩ := hx.one (ds := [])
    obtain ⟨a, xs, rfl, h3, h4⟩ := h.list fh
    exact .inl ⟨_, _, rfl, .inl ⟨xs, SqL.of h3, rfl⟩, ret1 fh (.int _) (by rw [h4.len]) q⟩
  · cases hg
    obtain ⟨x, rfl, h⟩ := hx.one (ds := [])
    obtain ⟨a, xs, rfl, h3, h4⟩ := h.ro fh
    exact .inl ⟨_, _, rfl, .inl ⟨xs, h3, rfl⟩, ret1 fh (.int _) (by rw [h4.len]) q⟩
  · cases hg
    obtain ⟨x, rfl, h⟩ := hx.one (ds := [])
    obtain ⟨a, xs, rfl, h3, h4, _⟩ := h.tuple fh
    exact .inl ⟨_, _, rfl, .inr ⟨xs, h3, rfl⟩, ret1 fh (.int _) (by rw [h4.len]) q⟩
  · cases hg
    obtain ⟨x, rfl, h⟩ := hx.one (ds := [])
    obtain ⟨a, o, xs, rfl, h3, h4, h5⟩ := h.dict fh
    rcases h4 with ⟨_, kvs, rfl, rfl, rfl⟩ | ⟨_, kvs, rfl, rfl, rfl⟩
    · exact .inr (.inl ⟨a, kvs, rfl, h3, ret1 fh (.int _) (by rw [List.length_map]) q⟩)
    · exact .inr (.inr ⟨a, kvs, rfl, h3, ret1 fh (.int _) (by rw [List.length_map]) q⟩)
  · cases hg
def tupleD : List D → Rs Ce
  | [.list ds] => .ok (.f (.tuple ds))
  | [.tuple ds] => .ok (.f (.tuple ds))
  | _ => .no
theorem snd_tuple : SndL K (rTupG K) tupleD := fun F H xs ds c Q fh hx hg q => by
  unfold tupleD at hg
  split at hg
  · cases hg
    obtain ⟨x, rfl, h⟩ := hx.one (ds := [])
    obtain ⟨a, xs, rfl, h3, h4⟩ := h.list fh
    refine ⟨a, xs, rfl, .inl ⟨SqL.of h3, fun l its hl => ?_⟩⟩
    have go : Go F H (upd F l (.frz (gO its) (.tup xs))) (upd H l (.frz (gO its) (.tup xs))) noA := Go.newF fh hl
    exact q _ _ _ go (.inl ⟨_, rfl, .tup (.inl upd_same) (h4.mono go.ff)⟩)
  · cases hg
    obtain ⟨x, rfl, h⟩ := hx.one (ds := [])
    obtain ⟨a, xs, rfl, h3, h4, h5⟩ := h.tuple fh
    exact ⟨a, xs, rfl, .inr ⟨h3, ret1 fh h5 rfl q⟩⟩
  · cases hg
def listD : List D → Rs Ce
  | [.list ds] => .ok (.l false ds)
  | [.ro ds] => .ok (.l false ds)
  | [.tuple ds] => .ok (.l false ds)
  | _ => .no
def rListA (K : PySem.W.Frag) : List V → Hp → VK → Prop := fun xs H Q => ∃ p ys, xs = [.ref p] ∧ (SqL K H p ys ∨ SqT K H p ys) ∧ ∀ l, H l = none → Q (.ref l) (upd H l (.lst ys))
theorem snd_list : SndL K (rListA K) listD := fun F H xs ds c Q fh hx hg q => by
  have key : ∀ (a : Addr) (ys : List V) (es : List D), DnA K F ys es → (SqL K H a ys ∨ SqT K H a ys) → c = .l false es → xs = [.ref a] → rListA K xs H Q := fun a ys es hd hs hc hxs =>
    ⟨a, ys, hxs, hs, fun l hl => q _ F _ (Go.newO fh hl) (.inr ⟨by rw [hc]; rfl, l, _, ys, rfl, hl, ex_none fh hl, upd_same, by rw [hc]; rfl, by rw [hc]; exact hd⟩)⟩
  unfold listD at hg
  split at hg
  · cases hg
    obtain ⟨x, rfl, h⟩ := hx.one (ds := [])
    obtain ⟨a, ys, rfl, h3, h4⟩ := h.list fh
    exact key a ys _ h4 (.inl (SqL.of h3)) rfl rfl
  · cases hg
    obtain ⟨x, rfl, h⟩ := hx.one (ds := [])
    obtain ⟨a, ys, rfl, h3, h4⟩ := h.ro fh
    exact key a ys _ h4 (.inl h3) rfl rfl
  · cases hg
    obtain ⟨x, rfl, h⟩ := hx.one (ds := [])
    obtain ⟨a, ys, rfl, h3, h4, _⟩ := h.tuple fh
    exact key a ys _ h4 (.inr h3) rfl rfl
  · cases hg
end
/-! ### isinstance -/
def D.ty : D → String
  | .none => "NoneType" | .bool _ => "bool" | .int _ => "int" | .str _ => "str" | .list _ => "list" | .ro _ => "list" | .tuple _ => "tuple" | .tupW _ => "tuple" | .dict _ _ _ => "dict"
def isT (T : String) (d : D) : Bool := d.ty == T || (T == "int" && d.ty == "bool")
def mIs (T : String) (m : M Hd) : M D := fun e => (m e).bind fun p => (p.1.get p.2).bind fun d => .ok (.bool (isT T d), p.2)
/-- a class that isinstance is asked for -/
structure TyOk (T : String) : Prop where
  ok : ∀ n ∈ ["NoneType", "bool", "int", "str", "list", "tuple", "dict"], kitB n T = some (n == T || (T == "int" && n == "bool"))
theorem tyOk_int : TyOk "int" := ⟨by decide +kernel⟩
theorem tyOk_bool : TyOk "bool" := ⟨by decide +kernel⟩
theorem tyOk_str : TyOk "str" := ⟨by decide +kernel⟩
theorem tyOk_tuple : TyOk "tuple" := ⟨by decide +kernel⟩
theorem tyOk_list : TyOk "list" := ⟨by decide +kernel⟩
theorem tyOk_dict : TyOk "dict" := ⟨by decide +kernel⟩
section
variable {X : Cx} {K : PySem.W.Frag} {F H : Hp} {ex : Expr} {pos p p2 : Pos}
theorem sqL_ty {a : Addr} {xs : List V} (h : SqL K H a xs) : TyX K H (.ref a) (.type "list") := by
  rcases h with (h | ⟨o, h⟩) | ⟨o, its, n, hk, hc, _⟩
  · exact .base (.lst h)
  · exact .base (.frz h)
  · exact .kList hk hc
theorem Vw.ty {d : D} {v : V} (h : Vw K F H d v) (fh : Ex F H) : TyX K H v (.type d.ty) := by
  cases d with
  | none => rw [h.none]; exact .base .non
  | bool b => rw [h.bool]; exact .base (.bl b)
  | int i => rw [h.int]; exact .base (.int i)
  | str s => rw [h.str]; exact .base (.str s)
  | list ds =>
    obtain ⟨a, xs, rfl, h1, _⟩ := h.list fh
    exact .base (.lst h1)
  | ro ds =>
    obtain ⟨a, xs, rfl, h1, _⟩ := h.ro fh
    exact sqL_ty h1
  | tuple ds =>
    obtain ⟨a, xs, rfl, h1, _, h2⟩ := h.tuple fh
    obtain ⟨a', its, xs', e, h3, _⟩ := h2.tuple_invS
    cases e
    exact h3.elim (fun h => .fTuple (fh _ _ h)) fun h => .kTuple h.1 rfl
  | tupW ds =>
    rcases h with h | ⟨a, o, xs, c, rfl, h1, h2, h3, e⟩
    · cases h with
      | tupW h1 _ => exact .base (.tup (fh _ _ h1))
    · cases c <;> first | exact h2.elim | cases e
  | dict t ks vs =>
    obtain ⟨a, o, xs, rfl, h1, h2, _⟩ := h.dict fh
    rcases h2 with ⟨_, kvs, rfl, _⟩ | ⟨_, kvs, rfl, _⟩
    · exact .base (.dK h1)
    · exact .base (.dT h1)
theorem pf_isi {T : String} {y : Str} {m : M Hd} (to : TyOk T) (hg : Gl X "isinstance") (hm : X.mg "isinstance" = none) (h : PH X ex m) (gy : Gl X y) (my : X.mg y = none) (by_ : bootBuiltins y = some (.type T)) (ny : y ≠ "__name__" := by decide) (dy : (y == ("__debug__" : Str)) = false := by decide)
    (he : starEach [ex, .Name y p2] X.env = (false, eval ex X.env) :: starEach [.Name y p2] X.env := by rfl) (hs2 : starEach [.Name y p2] X.env = (false, eval (.Name y p2) X.env) :: starEach [] X.env := by rfl) (hpl : (backTo pos (starEach [.Name y p2] X.env)).any (·.1) = false := by rfl) :
    PF X (.Call (.Name "isinstance" p) [ex, .Name y p2] [] pos) (mIs T m) :=
  PEimp (pe_callB call_isi hg hm (show bootBuiltins "isinstance" = some (.builtin "isinstance") by decide +kernel) (pa_cons h (pa_cons (pe_bltn (v := .ty T) gy my by_ rfl ny dy) pa_nil hs2) he) (by decide) (by decide) he hpl) fun σ H Q ⟨G, F, e, d, e', r, hm, q⟩ => by
    obtain ⟨hd, e1, h1, hm⟩ := bind_ok2 hm
    obtain ⟨dx, h2, hm⟩ := Rs.bind_eq hm
    cases hm
    refine ⟨G, F, e, hd, _, r, h1, fun v F1 H1 n hv => ⟨v, .ty T, .type dx.ty, .type T, isT T dx, rfl, .ty T, (hv.vw n.r h2).ty n.r.fh, ?_, q _ F1 H1 n (.bl _)⟩⟩
    refine kit_ty ?_
    have : dx.ty ∈ ["NoneType", "bool", "int", "str", "list", "tuple", "dict"] := by cases dx <;> simp [D.ty]
    exact to.ok _ this
/-- "..".join(texts) -/
def textsOf : List D → Option (List Str)
  | [] => some []
  | .str s :: ds => (textsOf ds).map fun ss => s :: ss
  | _ :: _ => none
def joinD : D → D → Rs Ce
  | .str a, .list ds => (match textsOf ds with
    | some ys => if (ys.map (·.length)).sum + ys.length * a.length ≤ 16777216 then .ok (.f (.str (Txt.join a ys))) else .no
    | none => .no)
  | .str a, .tuple ds => (match textsOf ds with
    | some ys => if (ys.map (·.length)).sum + ys.length * a.length ≤ 16777216 then .ok (.f (.str (Txt.join a ys))) else .no
    | none => .no)
  | _, _ => .no
theorem textsOf_eq : ∀ {ds : List D} {ys : List Str}, textsOf ds = some ys → ds = ys.map .str
  | [], ys, h => by cases h; rfl
  | d :: ds, ys, h => by
    cases d <;> first
      | (cases h; done)
      | skip
    unfold textsOf at h
    cases q : textsOf ds with
    | none => rw [q] at h; cases h
    | some zs =>
      rw [q] at h
      cases h
      rw [textsOf_eq q]
      rfl
/-- a method of a text with one argument that is first a text -/
def mJoin (ma mb : M Hd) : M Ce := fun e => (ma e).bind fun p => (p.1.get p.2).bind fun x => if isT "str" x = true then (mb p.2).bind fun q => (q.1.get q.2).bind fun y => (joinD x y).bind fun c => .ok (c, q.2) else .no
theorem pn_join {apos : Pos} {eo : Expr} {ma mb : M Hd} (ho : PH X eo ma) (he : PH X ex mb) (hs : starEach [ex] X.env = [(false, eval ex X.env)] := by rfl) (hbase : attributeBase eo "join" X.env (eval eo X.env) = eval eo X.env := by rfl) (hline : (apos.endLine == pos.line) = true := by rfl) :
    PN X (.Call (.Attribute eo "join" apos) [ex] [] pos) (mJoin ma mb) := PEimp (pe_join ho he hs hbase hline) fun σ H Q ⟨G, F, e, c, e', r, hm, q⟩ => by
  obtain ⟨x, e1, h1, hm⟩ := bind_ok2 hm
  obtain ⟨dx, h2, hm⟩ := Rs.bind_eq hm
  obtain ⟨hx, hm⟩ := ite_ok hm
  obtain ⟨y, e2, h3, hm⟩ := bind_ok2 hm
  obtain ⟨dy, h4, hm⟩ := Rs.bind_eq hm
  obtain ⟨c', h5, hm⟩ := Rs.bind_eq hm
  cases hm
  have hdx : ∃ s, dx = .str s := by
    cases dx <;> first
      | exact ⟨_, rfl⟩
      | (simp [isT, D.ty] at hx; done)
  obtain ⟨s, rfl⟩ := hdx
  refine ⟨G, F, e, x, e1, r, h1, fun vx F1 H1 n1 hvx => ⟨⟨s, (hvx.vw n1.r h2).str⟩, G, F1, e1, y, _, n1.r, h3, fun vy F2 H2 n2 hvy => ?_⟩⟩
  rw [(hvx.vw n1.r h2).str]
  have vw := hvy.vw n2.r h4
  have nn := n1.trans n2
  cases dy <;> first
    | (cases h5; done)
    | skip
  · rename_i ds
    simp only [joinD] at h5
    split at h5
    · rename_i ys hy
      obtain ⟨hz, h5⟩ := ite_ok h5
      cases h5
      obtain ⟨a, xs, rfl, g1, g2⟩ := vw.list n2.r.fh
      rw [textsOf_eq hy] at g2
      rw [g2.strs] at g1
      exact ⟨s, a, ys, rfl, rfl, .inl (SqL.of g1), hz, q _ F2 H2 nn (.inl ⟨_, rfl, .str _⟩)⟩
    · cases h5
  · rename_i ds
    simp only [joinD] at h5
    split at h5
    · rename_i ys hy
      obtain ⟨hz, h5⟩ := ite_ok h5
      cases h5
      obtain ⟨a, xs, rfl, g1, g2, _⟩ := vw.tuple n2.r.fh
      rw [textsOf_eq hy] at g2
      rw [g2.strs] at g1
      exact ⟨s, a, ys, rfl, rfl, .inr g1, hz, q _ F2 H2 nn (.inl ⟨_, rfl, .str _⟩)⟩
    · cases h5
end
end DL

namespace DL
open PySem L2 PyProof.Rows
/-! ### what stands among the built-ins -/
theorem bt_len : bootBuiltins "len" = some (.builtin "len") := by decide +kernel
theorem bt_abs : bootBuiltins "abs" = some (.builtin "abs") := by decide +kernel
theorem bt_min : bootBuiltins "min" = some (.builtin "min") := by decide +kernel
theorem bt_max : bootBuiltins "max" = some (.builtin "max") := by decide +kernel
theorem bt_sum : bootBuiltins "sum" = some (.builtin "sum") := by decide +kernel
theorem bt_sorted : bootBuiltins "sorted" = some (.builtin "sorted") := by decide +kernel
theorem bt_all : bootBuiltins "all" = some (.builtin "all") := by decide +kernel
theorem bt_any : bootBuiltins "any" = some (.builtin "any") := by decide +kernel
theorem bt_divmod : bootBuiltins "divmod" = some (.builtin "divmod") := by decide +kernel
theorem bt_int : bootBuiltins "int" = some (.type "int") := by decide +kernel
theorem bt_bool : bootBuiltins "bool" = some (.type "bool") := by decide +kernel
theorem bt_str : bootBuiltins "str" = some (.type "str") := by decide +kernel
theorem bt_tuple : bootBuiltins "tuple" = some (.type "tuple") := by decide +kernel
theorem bt_list : bootBuiltins "list" = some (.type "list") := by decide +kernel
theorem bt_dict : bootBuiltins "dict" = some (.type "dict") := by decide +kernel
/-! ### walks over lists or tuples -/
section
variable {X : Cx} {tg ex ey : Expr} {es : List Expr} {pos p : Pos} {x : Str}
def iSeq (K : PySem.W.Frag) (tl : TE) : TI := fun σ H R => tl σ H fun x H1 => ∃ a, x = .ref a ∧ (((∃ xs, SqL K H1 a xs) ∧ R (Itl K a) H1) ∨ ((∃ xs, SqT K H1 a xs) ∧ R (Itt K a) H1))
theorem pi_seq {l : Expr} {tl : TE} (hl : PE X l tl) : PI X tg l (iSeq X.K tl) := by
  refine ⟨fun pins s σ H R I h => ?_⟩
  refine thn (hl.run pins s σ H _ I h) fun v s1 ⟨x, H1, I1, r1, q1⟩ => ?_
  obtain ⟨a, e, q1⟩ := q1
  subst e
  cases r1
  rcases q1 with ⟨⟨xs, hq⟩, q⟩ | ⟨⟨xs, hq⟩, q⟩
  · obtain ⟨its, rv, p, hz⟩ := I1.list hq
    refine wpAny_pyIter_list p.isList ?_
    refine ⟨s1.heap.objs.size, [s1.heap.objs.size], _, _, H1, rfl, I1.kept (t' := s1.toks) fun b o e => Heap.get?_push_of_some _ e, turn_list a _, ⟨_, Heap.get?_push_size _ rfl, rfl, rfl⟩, fun b hb => ?_, q⟩
    have e : b = s1.heap.objs.size := by simpa using hb
    subst e
    exact I1.fpOk (Nat.le_refl _) (I1.hok.fresh (Nat.le_refl _))
  · obtain ⟨its, rv, p, hz⟩ := I1.tuple hq
    refine wpAny_pyIter_tuple (show s1.heap.IsTuple a its.toArray from p) ?_
    refine ⟨s1.heap.objs.size, [s1.heap.objs.size], _, _, H1, rfl, I1.kept (t' := s1.toks) fun b o e => Heap.get?_push_of_some _ e, turn_tuple a _, ⟨_, Heap.get?_push_size _ rfl, rfl, rfl⟩, fun b hb => ?_, q⟩
    have e : b = s1.heap.objs.size := by simpa using hb
    subst e
    exact I1.fpOk (Nat.le_refl _) (I1.hok.fresh (Nat.le_refl _))
def D.items : D → Rs (List D)
  | .list ds => .ok ds
  | .ro ds => .ok ds
  | .tuple ds => .ok ds
  | _ => .no
def mSeqA (m : M D) : M (List D) := fun e => (m e).bind fun p => p.1.items.bind fun ds => .ok (ds, p.2)
theorem pid_seq {m : M D} (h : PF X ex m) : PId X tg ex (mSeqA m) := PIimp (pi_seq h) fun σ H Q ⟨G, F, e, ds, e', r, hm, q⟩ => by
  obtain ⟨d, e1, h1, hm⟩ := bind_ok2 hm
  obtain ⟨ds', h2, hm⟩ := Rs.bind_eq hm
  cases hm
  have keyL : ∀ v F' H', Nx X.K G σ F H e F' H' e1 → (∃ a xs, v = V.ref a ∧ SqL X.K F' a xs ∧ DnA X.K F' xs ds) → ∃ a, v = V.ref a ∧ (((∃ xs, SqL X.K H' a xs) ∧ Q (Itl X.K a) H') ∨ ((∃ xs, SqT X.K H' a xs) ∧ Q (Itt X.K a) H')) := fun v F' H' n ⟨a, xs, hv, hl, hd⟩ => by
    refine ⟨a, hv, .inl ⟨⟨xs, Evl.ex_l n.r.fh hl⟩, q _ F' H' n ?_⟩⟩
    intro i F2 H2 x1 x2
    have hx := x1.trans x2
    refine ⟨fun d hi => ?_, fun hi => ?_⟩
    · obtain ⟨w, h1, h2⟩ := hd.get hi
      refine ⟨⟨xs, w, Evl.ex_l hx hl, h1⟩, fun x H3 y => ?_⟩
      obtain ⟨rfl, y⟩ := y
      have := y xs (Evl.ex_l hx hl)
      rw [h1] at this
      cases this
      exact ⟨F2, Go.refl x2, h2.mono x1⟩
    · exact ⟨xs, Evl.ex_l hx hl, by rw [hd.len]; exact List.getElem?_eq_none_iff.mp hi⟩
  cases d <;> first
    | (cases h2; done)
    | skip
  · cases h2
    refine ⟨G, F, e, _, _, r, h1, fun v F' H' n hn => keyL v F' H' n ?_⟩
    obtain ⟨a, xs, q1, q2, q3⟩ := hn.list_inv
    exact ⟨a, xs, q1, SqL.of q2, q3⟩
  · cases h2
    refine ⟨G, F, e, _, _, r, h1, fun v F' H' n hn => ?_⟩
    obtain ⟨a, xs, hv, hl, hd⟩ := hn.tuple_inv
    refine ⟨a, hv, .inr ⟨⟨xs, Evl.ex_t n.r.fh hl⟩, q _ F' H' n ?_⟩⟩
    intro i F2 H2 x1 x2
    have hx := x1.trans x2
    refine ⟨fun d hi => ?_, fun hi => ?_⟩
    · obtain ⟨w, h1, h2⟩ := hd.get hi
      refine ⟨⟨xs, w, Evl.ex_t hx hl, h1⟩, fun x H3 y => ?_⟩
      obtain ⟨rfl, y⟩ := y
      have := y xs (Evl.ex_t hx hl)
      rw [h1] at this
      cases this
      exact ⟨F2, Go.refl x2, h2.mono x1⟩
    · exact ⟨xs, Evl.ex_t hx hl, by rw [hd.len]; exact List.getElem?_eq_none_iff.mp hi⟩
  · cases h2
    exact ⟨G, F, e, _, _, r, h1, fun v F' H' n hn => keyL v F' H' n hn.ro_inv⟩
end
/-! ### defs by name -/
section
variable {P : Program} {w : World} {K : PySem.W.Frag} {mg : Str → Option Value} {base : Heap}
/-- the def x of the module keeps its promise S, by level k -/
structure DFn (P : Program) (w : World) (K : PySem.W.Frag) (mg : Str → Option Value) (base : Heap) (x : Str) (k : Nat) (S : Sf) : Prop where
  ok : ∃ f fd ps, FnD P w K mg base k f fd ps S ∧ mg x = some (.ref f) ∧ PySem.W.keepIn K (.ref f) = true ∧ Binds K fd ps []
theorem DFn.mono {x : Str} {j k : Nat} {S : Sf} (h : DFn P w K mg base x j S) (hk : j ≤ k) : DFn P w K mg base x k S := by
  obtain ⟨f, fd, ps, h1, h2⟩ := h.ok
  exact ⟨f, fd, ps, FnOk.mono h1 hk, h2⟩
theorem DFn.imp {x : Str} {k : Nat} {S S' : Sf} (h : DFn P w K mg base x k S) (hs : ∀ cs r, S' cs = .ok r → S cs = .ok r) : DFn P w K mg base x k S' := by
  obtain ⟨f, fd, ps, h1, h2⟩ := h.ok
  exact ⟨f, fd, ps, FnD.imp h1 hs, h2⟩
/-- where the def x stands -/
structure At1 (K : PySem.W.Frag) (mg : Str → Option Value) (x : Str) (st : Stmt) (ps : List Str) (f : Addr) (fd : FuncData) : Prop where
  fn : Fun K x x st f fd
  gl : mg x = some (.ref f)
  bi : Binds K fd ps []
theorem dfn_ok {x : Str} {st : Stmt} {f : Addr} {fd : FuncData} {N ps : List Str} {k : Nat} {S : Sf} (A : At1 K mg x st ps f fd) (Sc : FnScope N ps (defScope st)) (hN : ps.length ≤ N.length) (m : En → Out)
    (hb : ∀ (cdv : Value) (A : Around) (outer : List PySem.Env) (s : Shared) (H : Hp) (E : XK), Room k (A.deeper (envOfC x (defScope st) s.heap.objs.size f cdv)) → PDs (XX P w K mg base N x (defScope st) f cdv A outer s H E) (defBody st) m)
    (hS : ∀ cs c outs, S cs = .ok (c, outs) → cs.length = ps.length ∧ runD N.length m cs = .ok (c, outs)) : DFn P w K mg base x (k + 1) S :=
  ⟨f, fd, ps, fnD_ok A.fn Sc hN m hb hS, A.gl, A.fn.kp, A.bi⟩
end
section
variable {X : Cx} {ex : Expr} {es : List Expr} {pos p : Pos} {x : Str}
theorem pn_cd {j k : Nat} {S : Sf} {ma : M (List Ag)} (c : DFn X.prog X.w X.K X.mg X.base x j S) (hr : Room k X.A) (hjk : j ≤ k) (hg : Gl X x) (ha : PAg X (ex :: es) ma)
    (hdb : (x == ("__debug__" : Str)) = false := by decide) (he : starEach (ex :: es) X.env = (false, eval ex X.env) :: starEach es X.env := by rfl) (hpl : (backTo pos (starEach es X.env)).any (·.1) = false := by rfl) :
    PN X (.Call (.Name x p) (ex :: es) [] pos) (mCall S ma) := by
  obtain ⟨f, fd, ps, h1, h2, h3, h4⟩ := c.ok
  exact pn_call h1 (hr.mono hjk) hg h2 h3 h4 ha hdb he hpl
theorem hu1 {A : Around} {k : Nat} (hr : Room k A) : A.units + 1 < cLine := hu_of hr
theorem hu64 {A : Around} {k : Nat} (hr : Room k A) : A.units + 64 < cLine := hr.units
theorem hu65 {A : Around} {k : Nat} (hr : Room k A) : A.units + 65 < cLine := by have := hr.un; omega
end
/-! ### a law -/
open Classical in
/-- what is asked of a law: True of every list of at most n ints -/
noncomputable def lawS (n : Nat) : Sf := fun cs => if ∃ ns : List Int, ns.length ≤ n ∧ cs = [.f (.ro (ns.map .int))] then .ok (.f (.bool true), []) else .no
open Classical in
theorem lawS_ok {n : Nat} {cs : List Ce} {c : Ce} {outs : List Ce} (h : lawS n cs = .ok (c, outs)) : ∃ ns : List Int, ns.length ≤ n ∧ cs = [.f (.ro (ns.map .int))] ∧ c = .f (.bool true) ∧ outs = [] := by
  unfold lawS at h
  obtain ⟨⟨ns, h1, h2⟩, h⟩ := ite_ok h
  cases h
  exact ⟨ns, h1, h2, rfl, rfl⟩
open Classical in
theorem law_sp {n : Nat} (K : PySem.W.Frag) (H : Hp) (a : Addr) (ns : List Int) (hl : ns.length ≤ n) (hS : SqL K H a (ns.map V.int)) : spD K (lawS n) [.ref a] H (fun v _ => v = .bl true) fun _ _ _ => False := by
  refine ⟨H, [.f (.ro (ns.map .int))], .f (.bool true), [], [], Evl.Ex.refl _, .f (.ro hS (dnA_ints ns)) .nil, List.nodup_nil, ?_, fun v F' H' go nat _ => nat.fz.bool_inv⟩
  unfold lawS
  exact if_pos ⟨ns, hl, rfl⟩
end DL

namespace DL
open PySem L2 PyProof.Rows
section
variable {K : PySem.W.Frag} {F H : Hp}
/-! ### op= on frozen data -/
def iaddD : D → D → Rs Ce
  | .int i, .int j => .ok (.f (.int (i + j)))
  | .str a, .str b => if a.length + b.length ≤ sizeLine then .ok (.f (.str (a ++ b))) else .no
  | _, _ => .no
def rIAdd : R2 := fun x y H Q => rI0 (fun i j => .int (i + j)) x y H Q ∨ (∃ i j, x = .str i ∧ y = .str j ∧ i.length + j.length ≤ sizeLine ∧ Q (.str (i ++ j)) H)
theorem iop_addA {X : Cx} : OpR X (inplaceOp .Add) rIAdd := iop_add.or iop_add_str
theorem snd_iadd : Snd2 K rIAdd iaddD := fun F H x y dx dy c Q fh hx hy hg q => by
  cases dx <;> cases dy <;> first
    | (cases hg; done)
    | skip
  · rename_i i j
    cases hg
    rw [hx.int, hy.int]
    exact .inl ⟨i, j, rfl, rfl, ret1 fh (.int _) rfl q⟩
  · rename_i i j
    obtain ⟨h1, hg⟩ := ite_ok hg
    cases hg
    rw [hx.str, hy.str]
    exact .inr ⟨i, j, rfl, rfl, h1, ret1 fh (.str _) rfl q⟩
noncomputable def imulD : D → D → Rs Ce
  | .int i, .int j => if MulOk i j then .ok (.f (.int (i * j))) else .no
  | _, _ => .no
def rIMul : R2 := fun x y H Q => rI CMul (fun i j => .int (i * j)) x y H Q ∨ rI CMulW (fun i j => .int (i * j)) x y H Q
theorem iop_mulA {X : Cx} : OpR X (inplaceOp .Mult) rIMul := iop_mul.or (opI fun _ _ _ _ _ _ _ hc q => imul_int q hc.ok)
theorem snd_imul : Snd2 K rIMul imulD := fun F H x y dx dy c Q fh hx hy hg q => by
  cases dx <;> cases dy <;> first
    | (cases hg; done)
    | skip
  rename_i i j
  obtain ⟨h1, hg⟩ := ite_ok hg
  cases hg
  rw [hx.int, hy.int]
  rcases mulOk_r h1 with h | h
  · exact .inl ⟨i, j, rfl, rfl, h, ret1 fh (.int _) rfl q⟩
  · exact .inr ⟨i, j, rfl, rfl, h, ret1 fh (.int _) rfl q⟩
noncomputable def ifdivD : D → D → Rs Ce
  | .int i, .int j => if DivOk j then .ok (.f (.int (i / j))) else .no
  | _, _ => .no
theorem snd_ifdiv : Snd2 K (rI CDivW fun i j => .int (i / j)) ifdivD := fun F H x y dx dy c Q fh hx hy hg q => by
  cases dx <;> cases dy <;> first
    | (cases hg; done)
    | skip
  rename_i i j
  obtain ⟨h, hg⟩ := ite_ok hg
  cases hg
  rw [hx.int, hy.int]
  exact ⟨i, j, rfl, rfl, wide_div h.1 h.2 (by decide) (by decide), ret1 fh (.int _) rfl q⟩
end
end DL

namespace DL
open PySem L2 PyProof.Rows
/-! ### reckoning a meaning: simp rules -/
@[simp] theorem mN_r (m : M D) (e : En) : mN m e = (m e).bind fun p => .ok (.f p.1, p.2) := Eq.trans rfl rfl
@[simp] theorem mZ_r (m : M Ce) (e : En) : mZ m e = (m e).bind fun p => .ok (p.1.d, p.2) := Eq.trans rfl rfl
@[simp] theorem mH_r (m : M Ce) (e : En) : mH m e = (m e).bind fun p => .ok (.v p.1, p.2) := Eq.trans rfl rfl
@[simp] theorem mVar_r (i : Nat) (e : En) : mVar i e = match e[i]? with
  | some (some (.f d)) => .ok (d, e)
  | _ => .no := Eq.trans rfl rfl
@[simp] theorem mSl_r (i : Nat) (e : En) : mSl i e = match e[i]? with
  | some (some _) => .ok (.s i, e)
  | _ => .no := Eq.trans rfl rfl
@[simp] theorem get_v (c : Ce) (e : En) : (Hd.v c).get e = .ok c.d := rfl
@[simp] theorem get_s (i : Nat) (e : En) : (Hd.s i).get e = match e[i]? with
  | some (some c) => .ok c.d
  | _ => .no := rfl
@[simp] theorem ce_d_f (d : D) : (Ce.f d).d = d := rfl
@[simp] theorem ce_d_l (p : Bool) (ds : List D) : (Ce.l p ds).d = .list ds := rfl
@[simp] theorem ce_d_k (p t : Bool) (ks vs : List D) : (Ce.k p t ks vs).d = .dict t ks vs := rfl
@[simp] theorem m2_r (g : D → D → Rs Ce) (ma mb : M Hd) (e : En) : m2 g ma mb e = (ma e).bind fun p => (mb p.2).bind fun q => (p.1.get q.2).bind fun x => (q.1.get q.2).bind fun y => (g x y).bind fun c => .ok (c, q.2) := Eq.trans rfl rfl
@[simp] theorem m1_r (g : D → Rs Ce) (ma : M Hd) (e : En) : m1 g ma e = (ma e).bind fun p => (p.1.get p.2).bind fun x => (g x).bind fun c => .ok (c, p.2) := Eq.trans rfl rfl
@[simp] theorem mL_r (g : List D → Rs Ce) (ma : M (List Hd)) (e : En) : mL g ma e = (ma e).bind fun p => (gets p.1 p.2).bind fun xs => (g xs).bind fun c => .ok (c, p.2) := Eq.trans rfl rfl
@[simp] theorem gets_nil (e : En) : gets [] e = .ok [] := rfl
@[simp] theorem gets_cons (h : Hd) (hs : List Hd) (e : En) : gets (h :: hs) e = (h.get e).bind fun d => (gets hs e).bind fun ds => .ok (d :: ds) := rfl
@[simp] theorem aNil_r {α : Type} (e : En) : (aNil : M (List α)) e = .ok ([], e) := Eq.trans rfl rfl
@[simp] theorem aCons_r {α : Type} (m : M α) (ms : M (List α)) (e : En) : aCons m ms e = (m e).bind fun p => (ms p.2).bind fun q => .ok (p.1 :: q.1, q.2) := Eq.trans rfl rfl
@[simp] theorem mTup_r (ma : M (List D)) (e : En) : mTup ma e = (ma e).bind fun p => if p.1.length ≤ sizeLine then .ok (.tuple p.1, p.2) else .no := Eq.trans rfl rfl
@[simp] theorem mLst_r (ma : M (List D)) (e : En) : mLst ma e = (ma e).bind fun p => if p.1.length ≤ sizeLine then .ok (.l false p.1, p.2) else .no := Eq.trans rfl rfl
@[simp] theorem mIf_r {α : Type} (t : M Bool) (a b : M α) (e : En) : mIf t a b e = (t e).bind fun p => if p.1 = true then a p.2 else b p.2 := Eq.trans rfl rfl
@[simp] theorem mAnd_r (a b : M Bool) (e : En) : mAnd a b e = (a e).bind fun p => if p.1 = true then b p.2 else .ok (false, p.2) := Eq.trans rfl rfl
@[simp] theorem mOr_r (a b : M Bool) (e : En) : mOr a b e = (a e).bind fun p => if p.1 = true then .ok (true, p.2) else b p.2 := Eq.trans rfl rfl
@[simp] theorem mNot_r (a : M Bool) (e : En) : mNot a e = (a e).bind fun p => .ok (!p.1, p.2) := Eq.trans rfl rfl
@[simp] theorem mBool_r (m : M Ce) (e : En) : mBool m e = (m e).bind fun p => match p.1 with
  | .f (.bool b) => .ok (b, p.2)
  | _ => .no := Eq.trans rfl rfl
@[simp] theorem mAndV_r (a b : M Ce) (e : En) : mAndV a b e = (a e).bind fun p => match p.1 with
  | .f (.bool true) => b p.2
  | .f (.bool false) => .ok (.f (.bool false), p.2)
  | _ => .no := Eq.trans rfl rfl
@[simp] theorem mOrV_r (a b : M Ce) (e : En) : mOrV a b e = (a e).bind fun p => match p.1 with
  | .f (.bool true) => .ok (.f (.bool true), p.2)
  | .f (.bool false) => b p.2
  | _ => .no := Eq.trans rfl rfl
@[simp] theorem mNotV_r (a : M Ce) (e : En) : mNotV a e = (a e).bind fun p => match p.1 with
  | .f (.bool b) => .ok (.bool (!b), p.2)
  | _ => .no := Eq.trans rfl rfl
@[simp] theorem mTru_r (m : M Hd) (e : En) : mTru m e = (m e).bind fun p => (p.1.get p.2).bind fun d => d.truth.bind fun b => .ok (b, p.2) := Eq.trans rfl rfl
@[simp] theorem mChain_r (g g' : D → D → Rs Ce) (ma mb mc : M Hd) (e : En) : mChain g g' ma mb mc e = (ma e).bind fun p => (mb p.2).bind fun q => (p.1.get q.2).bind fun x => (q.1.get q.2).bind fun y => (g x y).bind fun c => match c with
  | .f (.bool true) => (mc q.2).bind fun z => (q.1.get z.2).bind fun y' => (z.1.get z.2).bind fun w => (g' y' w).bind fun c' => .ok (c', z.2)
  | .f (.bool false) => .ok (.f (.bool false), q.2)
  | _ => .no := Eq.trans rfl rfl
@[simp] theorem mIs_r (T : String) (m : M Hd) (e : En) : mIs T m e = (m e).bind fun p => (p.1.get p.2).bind fun d => .ok (.bool (isT T d), p.2) := Eq.trans rfl rfl
@[simp] theorem mSeqA_r (m : M D) (e : En) : mSeqA m e = (m e).bind fun p => p.1.items.bind fun ds => .ok (ds, p.2) := Eq.trans rfl rfl
@[simp] theorem items_l (ds : List D) : (D.list ds).items = .ok ds := rfl
@[simp] theorem items_r (ds : List D) : (D.ro ds).items = .ok ds := Eq.trans rfl rfl
@[simp] theorem items_t (ds : List D) : (D.tuple ds).items = .ok ds := rfl
@[simp] theorem mRng1_r (ma : M (List D)) (e : En) : mRng1 ma e = (ma e).bind fun p => match p.1 with
  | [.int n] => if -(2 ^ 62) ≤ n ∧ n < 2 ^ 62 then .ok (rgD 0 n.toNat, p.2) else .no
  | _ => .no := Eq.trans rfl rfl
@[simp] theorem mRng2_r (ma : M (List D)) (e : En) : mRng2 ma e = (ma e).bind fun p => match p.1 with
  | [.int lo, .int n] => if -(2 ^ 62) ≤ lo ∧ lo < 2 ^ 62 ∧ -(2 ^ 62) ≤ n ∧ n < 2 ^ 62 then .ok (rgD lo (n - lo).toNat, p.2) else .no
  | _ => .no := Eq.trans rfl rfl
@[simp] theorem mJoin_r (ma mb : M Hd) (e : En) : mJoin ma mb e = (ma e).bind fun p => (p.1.get p.2).bind fun x => if isT "str" x = true then (mb p.2).bind fun q => (q.1.get q.2).bind fun y => (joinD x y).bind fun c => .ok (c, q.2) else .no := Eq.trans rfl rfl
@[simp] theorem mDNew_r (t : Bool) (e : En) : mDNew t e = .ok (.k false t [] [], e) := Eq.trans rfl rfl
theorem mComp_r (src : M (List D)) (t : Tg) (vs : List Nat) (c : M Bool) (m : M D) (e : En) : mComp src t vs c m e = (src e).bind fun p => (cLoop t vs c m p.1 [] p.2).bind fun q => .ok (.l false q.1, restE p.2 q.2 vs) := rfl
@[simp] theorem mYes_r (e : En) : mYes e = .ok (true, e) := Eq.trans rfl rfl
@[simp] theorem aD_r (m : M D) (e : En) : aD m e = (m e).bind fun p => .ok (.d p.1, p.2) := Eq.trans rfl rfl
@[simp] theorem aS_r (i : Nat) (e : En) : aS i e = match e[i]? with
  | some (some c) => if c.ow = true then .ok (.s i, e) else .no
  | _ => .no := Eq.trans rfl rfl
@[simp] theorem agCells_nil (e : En) : agCells [] e = .ok [] := rfl
@[simp] theorem agCells_d (d : D) (as : List Ag) (e : En) : agCells (.d d :: as) e = (agCells as e).bind fun cs => .ok (.f d :: cs) := rfl
@[simp] theorem agCells_s (i : Nat) (as : List Ag) (e : En) : agCells (.s i :: as) e = match e[i]? with
    | some (some c) => (agCells as e).bind fun cs => .ok (c.lent :: cs)
    | _ => .no := rfl
@[simp] theorem agSlots_nil : agSlots [] = [] := rfl
@[simp] theorem agSlots_d (d : D) (as : List Ag) : agSlots (.d d :: as) = agSlots as := rfl
@[simp] theorem agSlots_s (i : Nat) (as : List Ag) : agSlots (.s i :: as) = i :: agSlots as := rfl
@[simp] theorem putBack_nil (e : En) : putBack [] [] e = .ok e := rfl
@[simp] theorem putBack_l (i : Nat) (is : List Nat) (p : Bool) (ds : List D) (cs : List Ce) (e : En) : putBack (i :: is) (.l p ds :: cs) e = match e[i]? with
    | some (some (.l p' _)) => putBack is cs (e.set i (some (.l p' ds)))
    | _ => .no := by
  show (match e[i]?, Ce.l p ds with
    | some (some (.l p _)), .l _ ds => putBack is cs (e.set i (some (.l p ds)))
    | some (some (.k p t _ _)), .k _ t' ks vs => if t = t' then putBack is cs (e.set i (some (.k p t' ks vs))) else .no
    | _, _ => .no) = _
  cases e[i]? with
  | none => rfl
  | some o => cases o with
    | none => rfl
    | some c => cases c <;> rfl
@[simp] theorem mCall_r (S : Sf) (ma : M (List Ag)) (e : En) : mCall S ma e = (ma e).bind fun p => (agCells p.1 p.2).bind fun cs => if (agSlots p.1).Nodup then (S cs).bind fun r => (putBack (agSlots p.1) r.2 p.2).bind fun e' => .ok (r.1, e') else .no := Eq.trans rfl rfl
@[simp] theorem lent_f (d : D) : (Ce.f d).lent = .f d := rfl
@[simp] theorem lent_l (p : Bool) (ds : List D) : (Ce.l p ds).lent = .l true ds := rfl
@[simp] theorem ow_f (d : D) : (Ce.f d).ow = false := rfl
@[simp] theorem ow_l (p : Bool) (ds : List D) : (Ce.l p ds).ow = true := rfl
@[simp] theorem ow_k (p t : Bool) (ks vs : List D) : (Ce.k p t ks vs).ow = true := rfl
@[simp] theorem io_f (d : D) : (Ce.f d).io = false := rfl
@[simp] theorem io_l (p : Bool) (ds : List D) : (Ce.l p ds).io = p := rfl
@[simp] theorem io_k (p t : Bool) (ks vs : List D) : (Ce.k p t ks vs).io = p := rfl
@[simp] theorem ioAt_nil (i : Nat) : ioAt [] i = false := rfl
@[simp] theorem ioAt_z (c : Ce) (e : En) : ioAt (some c :: e) 0 = c.io := rfl
@[simp] theorem ioAt_n (e : En) : ioAt (none :: e) 0 = false := rfl
@[simp] theorem ioAt_m (a : Option D) (e : En) : ioAt (a.map Ce.f :: e) 0 = false := by cases a <;> rfl
@[simp] theorem ioAt_s (o : Option Ce) (e : En) (i : Nat) : ioAt (o :: e) (i + 1) = ioAt e i := rfl
@[simp] theorem frozenAt_nil (i : Nat) : frozenAt [] i = true := rfl
@[simp] theorem frozenAt_z (c : Ce) (e : En) : frozenAt (some c :: e) 0 = !c.ow := rfl
@[simp] theorem frozenAt_n (e : En) : frozenAt (none :: e) 0 = true := rfl
@[simp] theorem frozenAt_m (a : Option D) (e : En) : frozenAt (a.map Ce.f :: e) 0 = true := by cases a <;> rfl
@[simp] theorem frozenAt_s (o : Option Ce) (e : En) (i : Nat) : frozenAt (o :: e) (i + 1) = frozenAt e i := rfl
theorem ioAt_r (e : En) (i : Nat) : ioAt e i = match e[i]? with
  | some (some c) => c.io
  | _ => false := rfl
theorem frozenAt_r (e : En) (i : Nat) : frozenAt e i = match e[i]? with
  | some (some c) => !c.ow
  | _ => true := rfl
/-! statements -/
@[simp] theorem sAsg_r (i : Nat) (m : M Ce) (e : En) : sAsg i m e = onR (m e) fun c e' => if ioAt e' i = true then .no else .nx (e'.set i (some c)) := Eq.trans rfl rfl
@[simp] theorem sAsgF_r (i : Nat) (m : M D) (e : En) : sAsgF i m e = onR (m e) fun d e' => if ioAt e' i = true then .no else .nx (e'.set i (some (.f d))) := Eq.trans rfl rfl
@[simp] theorem sSeq_r (a b : En → Out) (e : En) : sSeq a b e = match a e with
  | .nx e' => b e'
  | o => o := Eq.trans rfl rfl
@[simp] theorem sNext_r (e : En) : sNext e = .nx e := Eq.trans rfl rfl
@[simp] theorem sBreak_r (e : En) : sBreak e = .bk e := Eq.trans rfl rfl
@[simp] theorem sCont_r (e : En) : sCont e = .ct e := Eq.trans rfl rfl
@[simp] theorem sFrz_r (i : Nat) (b : En → Out) (e : En) : sFrz i b e = match e[i]? with
  | some (some c) => if c.io = true then .no else b (e.set i (some (.f c.d)))
  | _ => .no := Eq.trans rfl rfl
@[simp] theorem sDrop_r {α : Type} (m : M α) (e : En) : sDrop m e = onR (m e) fun _ e' => .nx e' := Eq.trans rfl rfl
@[simp] theorem sRet_r (m : M Ce) (e : En) : sRet m e = onR (m e) fun c e' => .rt c e' := Eq.trans rfl rfl
@[simp] theorem sRetN_r (e : En) : sRetN e = .rt (.f .none) e := Eq.trans rfl rfl
@[simp] theorem sRetS_r (i : Nat) (e : En) : sRetS i e = match e[i]? with
  | some (some c) => if c.io = true then .no else .rt c e
  | _ => .no := Eq.trans rfl rfl
@[simp] theorem sIf_r (t : M Bool) (a b : En → Out) (e : En) : sIf t a b e = onR (t e) fun c e' => if c = true then a e' else b e' := Eq.trans rfl rfl
@[simp] theorem sApp_r (i : Nat) (m : M D) (e : En) : sApp i m e = match e[i]? with
  | some (some (.l _ _)) => onR (m e) fun d e' => (match e'[i]? with
    | some (some (.l p ds)) => if ds.length < 16000000 then .nx (e'.set i (some (.l p (ds ++ [d])))) else .no
    | _ => .no)
  | _ => .no := Eq.trans rfl rfl
@[simp] theorem sTgt_r (t : Tg) (m : M D) (e : En) : sTgt t m e = onR (m e) fun d e' => match t d e' with
  | .ok e2 => .nx e2
  | _ => .no := Eq.trans rfl rfl
@[simp] theorem tgN_r (i : Nat) (d : D) (e : En) : tgN i d e = if ioAt e i = true then .no else .ok (e.set i (some (.f d))) := Eq.trans rfl rfl
@[simp] theorem tgT_w (ts : List Tg) (ds : List D) (e : En) : tgT ts (.tupW ds) e = tgAll ts ds e := rfl
@[simp] theorem tgT_r (ts : List Tg) (ds : List D) (e : En) : tgT ts (.tuple ds) e = tgAll ts ds e := Eq.trans rfl rfl
@[simp] theorem tgAll_nil (e : En) : tgAll [] [] e = .ok e := rfl
@[simp] theorem tgAll_cons (t : Tg) (ts : List Tg) (d : D) (ds : List D) (e : En) : tgAll (t :: ts) (d :: ds) e = (t d e).bind (tgAll ts ds) := rfl
@[simp] theorem sParN_r (i j : Nat) (ma mb : M Ce) (e : En) : sParN i j ma mb e = onR (ma e) fun c1 e1 => onR (mb e1) fun c2 e2 => if (ioAt e2 i || ioAt e2 j) = true then .no else .nx ((e2.set i (some c1)).set j (some c2)) := Eq.trans rfl rfl
@[simp] theorem sAug_r (g : D → D → Rs Ce) (i : Nat) (m : M D) (e : En) : sAug g i m e = match e[i]? with
  | some (some (.f dx)) => onR (m e) fun d e' => (match g dx d with
    | .ok (.f dz) => .nx (e'.set i (some (.f dz)))
    | _ => .no)
  | _ => .no := Eq.trans rfl rfl
@[simp] theorem sFor_r (m : M (List D)) (t : Tg) (b : En → Out) (e : En) : sFor m t b e = onR (m e) fun ds e' => loopL t b ds e' := Eq.trans rfl rfl
@[simp] theorem loopL_nil (t : Tg) (b : En → Out) (e : En) : loopL t b [] e = .nx e := rfl
theorem loopL_cons (t : Tg) (b : En → Out) (d : D) (ds : List D) (e : En) : loopL t b (d :: ds) e = match t d e with
    | .ok e1 => (match b e1 with
      | .nx e2 => loopL t b ds e2
      | .ct e2 => loopL t b ds e2
      | .bk e2 => .nx e2
      | o => o)
    | _ => .no := rfl
@[simp] theorem sDPut_r (i : Nat) (mk mv : M D) (e : En) : sDPut i mk mv e = onR (mv e) fun v e1 => match e1[i]? with
  | some (some (.k _ _ _ _)) => onR (mk e1) fun k e2 => (match e2[i]? with
    | some (some (.k p t ks vs)) => if (keyOk t k = true ∧ ks.length < 16000000) then .nx (e2.set i (some (.k p t (dPutK ks k) (dPutW ks vs k v)))) else .no
    | _ => .no)
  | _ => .no := Eq.trans rfl rfl
@[simp] theorem sLPut_r (i : Nat) (mj mv : M D) (e : En) : sLPut i mj mv e = onR (mv e) fun v e1 => match e1[i]? with
  | some (some (.l _ _)) => onR (mj e1) fun k e2 => (match e2[i]?, k with
    | some (some (.l p ds)), .int j => (match ixN ds.length j with
      | some jj => .nx (e2.set i (some (.l p (ds.set jj v))))
      | none => .no)
    | _, _ => .no)
  | _ => .no := Eq.trans rfl rfl
theorem runD_r (n : Nat) (m : En → Out) (cs : List Ce) : runD n m cs = match m (startE n cs) with
  | .rt c e => (outsAt (owIx 0 cs) e).bind fun os => .ok (c, os)
  | .nx e => (outsAt (owIx 0 cs) e).bind fun os => .ok (.f .none, os)
  | .ex n ds => .ex n ds
  | _ => .no := rfl
@[simp] theorem owIx_nil (n : Nat) : owIx n [] = [] := rfl
@[simp] theorem owIx_f (n : Nat) (d : D) (cs : List Ce) : owIx n (.f d :: cs) = owIx (n + 1) cs := rfl
@[simp] theorem owIx_l (n : Nat) (p : Bool) (ds : List D) (cs : List Ce) : owIx n (.l p ds :: cs) = n :: owIx (n + 1) cs := rfl
@[simp] theorem outsAt_nil (e : En) : outsAt [] e = .ok [] := rfl
@[simp] theorem outsAt_cons (i : Nat) (is : List Nat) (e : En) : outsAt (i :: is) e = match e[i]? with
    | some (some c) => if c.io = true then (outsAt is e).bind fun cs => .ok (c :: cs) else .no
    | _ => .no := rfl
/-! operations -/
@[simp] theorem addD_i (i j : Int) : addD (.int i) (.int j) = .ok (.f (.int (i + j))) := rfl
@[simp] theorem subD_i (i j : Int) : subD (.int i) (.int j) = .ok (.f (.int (i - j))) := rfl
theorem mulD_i {i j : Int} (h : MulOk i j) : mulD (.int i) (.int j) = .ok (.f (.int (i * j))) := if_pos h
theorem imulD_i {i j : Int} (h : MulOk i j) : imulD (.int i) (.int j) = .ok (.f (.int (i * j))) := if_pos h
theorem fdivD_i {i j : Int} (h : DivOk j) : fdivD (.int i) (.int j) = .ok (.f (.int (i / j))) := if_pos h
theorem ifdivD_i {i j : Int} (h : DivOk j) : ifdivD (.int i) (.int j) = .ok (.f (.int (i / j))) := if_pos h
theorem modD_i {i j : Int} (h : 0 < j) : modD (.int i) (.int j) = .ok (.f (.int (i % j))) := if_pos h
@[simp] theorem iaddD_i (i j : Int) : iaddD (.int i) (.int j) = .ok (.f (.int (i + j))) := rfl
@[simp] theorem negD_i (i : Int) : negD (.int i) = .ok (.f (.int (-i))) := rfl
@[simp] theorem ltD_i (i j : Int) : ltD (.int i) (.int j) = .ok (.f (.bool (decide (i < j)))) := rfl
@[simp] theorem leD_i (i j : Int) : leD (.int i) (.int j) = .ok (.f (.bool (decide (i ≤ j)))) := rfl
@[simp] theorem gtD_i (i j : Int) : gtD (.int i) (.int j) = .ok (.f (.bool (decide (j < i)))) := rfl
@[simp] theorem geD_i (i j : Int) : geD (.int i) (.int j) = .ok (.f (.bool (decide (j ≤ i)))) := rfl
@[simp] theorem eqD_i (i j : Int) : eqD (.int i) (.int j) = .ok (.f (.bool (i == j))) := by simp [eqD, D.sc, D.eqb]
@[simp] theorem neD_i (i j : Int) : neD (.int i) (.int j) = .ok (.f (.bool (!(i == j)))) := by simp [neD, D.sc, D.eqb]
@[simp] theorem eqD_s (i j : Str) : eqD (.str i) (.str j) = .ok (.f (.bool (i == j))) := by simp [eqD, D.sc, D.eqb]
@[simp] theorem neD_s (i j : Str) : neD (.str i) (.str j) = .ok (.f (.bool (!(i == j)))) := by simp [neD, D.sc, D.eqb]
@[simp] theorem isD_n (x : D) : isD x .none = .ok (.f (.bool x.isN)) := rfl
@[simp] theorem isD_b (x : D) (b : Bool) : isD x (.bool b) = .ok (.f (.bool (x.isB b))) := rfl
@[simp] theorem isntD_n (x : D) : isntD x .none = .ok (.f (.bool (!x.isN))) := rfl
@[simp] theorem intD_i (i : Int) : intD [.int i] = .ok (.f (.int i)) := rfl
@[simp] theorem absD_i (i : Int) : absD [.int i] = .ok (.f (.int (if i < 0 then -i else i))) := rfl
@[simp] theorem gcdD_i (a b : Int) : gcdD [.int a, .int b] = .ok (.f (.int ((Nat.gcd a.natAbs b.natAbs : Nat) : Int))) := rfl
theorem lcmD_i {a b : Int} (h : a.natAbs < 2 ^ 64 ∧ b.natAbs < 2 ^ 64) : lcmD [.int a, .int b] = .ok (.f (.int ((Nat.lcm a.natAbs b.natAbs : Nat) : Int))) := if_pos h
@[simp] theorem lenD_l (ds : List D) : lenD [.list ds] = .ok (.f (.int ds.length)) := rfl
@[simp] theorem lenD_ro (ds : List D) : lenD [.ro ds] = .ok (.f (.int ds.length)) := rfl
@[simp] theorem lenD_t (ds : List D) : lenD [.tuple ds] = .ok (.f (.int ds.length)) := rfl
@[simp] theorem lenD_d (t : Bool) (ks vs : List D) : lenD [.dict t ks vs] = .ok (.f (.int ks.length)) := rfl
@[simp] theorem tupleD_l (ds : List D) : tupleD [.list ds] = .ok (.f (.tuple ds)) := rfl
@[simp] theorem tupleD_t (ds : List D) : tupleD [.tuple ds] = .ok (.f (.tuple ds)) := rfl
@[simp] theorem listD_l (ds : List D) : listD [.list ds] = .ok (.l false ds) := rfl
@[simp] theorem listD_t (ds : List D) : listD [.tuple ds] = .ok (.l false ds) := rfl
theorem ixD_t (ds : List D) (i : Int) : ixD (.tuple ds) (.int i) = match atI ds i with
    | some d => .ok (.f d)
    | _ => .no := rfl
theorem ixD_l (ds : List D) (i : Int) : ixD (.list ds) (.int i) = match atI ds i with
    | some d => .ok (.f d)
    | _ => .no := rfl
theorem ixD_ro (ds : List D) (i : Int) : ixD (.ro ds) (.int i) = match atI ds i with
    | some d => .ok (.f d)
    | _ => .no := rfl
@[simp] theorem ixD_t0 (d : D) (ds : List D) : ixD (.tuple (d :: ds)) (.int 0) = .ok (.f d) := by
  rw [ixD_t, show atI (d :: ds) 0 = some d from atI_nat (j := 0) rfl]
@[simp] theorem ixD_t1 (d d1 : D) (ds : List D) : ixD (.tuple (d :: d1 :: ds)) (.int 1) = .ok (.f d1) := by
  rw [ixD_t, show atI (d :: d1 :: ds) 1 = some d1 from atI_nat (j := 1) rfl]
@[simp] theorem ixD_t2 (d d1 d2 : D) (ds : List D) : ixD (.tuple (d :: d1 :: d2 :: ds)) (.int 2) = .ok (.f d2) := by
  rw [ixD_t, show atI (d :: d1 :: d2 :: ds) 2 = some d2 from atI_nat (j := 2) rfl]
@[simp] theorem ixD_t3 (d d1 d2 d3 : D) (ds : List D) : ixD (.tuple (d :: d1 :: d2 :: d3 :: ds)) (.int 3) = .ok (.f d3) := by
  rw [ixD_t, show atI (d :: d1 :: d2 :: d3 :: ds) 3 = some d3 from atI_nat (j := 3) rfl]
@[simp] theorem ixD_t4 (d d1 d2 d3 d4 : D) (ds : List D) : ixD (.tuple (d :: d1 :: d2 :: d3 :: d4 :: ds)) (.int 4) = .ok (.f d4) := by
  rw [ixD_t, show atI (d :: d1 :: d2 :: d3 :: d4 :: ds) 4 = some d4 from atI_nat (j := 4) rfl]
@[simp] theorem ixD_l0 (d : D) (ds : List D) : ixD (.list (d :: ds)) (.int 0) = .ok (.f d) := by
  rw [ixD_l, show atI (d :: ds) 0 = some d from atI_nat (j := 0) rfl]
@[simp] theorem ixD_l1 (d d1 : D) (ds : List D) : ixD (.list (d :: d1 :: ds)) (.int 1) = .ok (.f d1) := by
  rw [ixD_l, show atI (d :: d1 :: ds) 1 = some d1 from atI_nat (j := 1) rfl]
theorem ixD_tn {ds : List D} {n : Nat} {d : D} (h : ds[n]? = some d) : ixD (.tuple ds) (.int (n : Int)) = .ok (.f d) := by rw [ixD_t, atI_nat h]
theorem ixD_ln {ds : List D} {n : Nat} {d : D} (h : ds[n]? = some d) : ixD (.list ds) (.int (n : Int)) = .ok (.f d) := by rw [ixD_l, atI_nat h]
theorem ixD_rn {ds : List D} {n : Nat} {d : D} (h : ds[n]? = some d) : ixD (.ro ds) (.int (n : Int)) = .ok (.f d) := by rw [ixD_ro, atI_nat h]
@[simp] theorem ixN_0 (n : Nat) : ixN (n + 1) 0 = some 0 := by simp [ixN]
@[simp] theorem ixN_1 (n : Nat) : ixN (n + 1 + 1) 1 = some 1 := by
  unfold ixN
  rw [if_pos (by decide), if_pos (by omega)]
  rfl
@[simp] theorem sizeLine_ge (n : Nat) (h : n ≤ 1000 := by decide) : n ≤ sizeLine := Nat.le_trans h (by rw [sizeLine_eq]; decide)
@[simp] theorem isN_none : D.none.isN = true := rfl
@[simp] theorem isN_b (b : Bool) : (D.bool b).isN = false := rfl
@[simp] theorem isN_i (i : Int) : (D.int i).isN = false := rfl
@[simp] theorem isN_s (s : Str) : (D.str s).isN = false := rfl
@[simp] theorem isN_t (ds : List D) : (D.tuple ds).isN = false := rfl
@[simp] theorem isN_l (ds : List D) : (D.list ds).isN = false := rfl
@[simp] theorem isB_n (b : Bool) : D.none.isB b = false := rfl
@[simp] theorem isB_b (b c : Bool) : (D.bool c).isB b = (c == b) := rfl
@[simp] theorem isB_i (b : Bool) (i : Int) : (D.int i).isB b = false := rfl
@[simp] theorem isB_s (b : Bool) (s : Str) : (D.str s).isB b = false := rfl
@[simp] theorem isB_t (b : Bool) (ds : List D) : (D.tuple ds).isB b = false := rfl
@[simp] theorem truth_b (b : Bool) : (D.bool b).truth = .ok b := rfl
@[simp] theorem truth_n : D.none.truth = .ok false := rfl
@[simp] theorem truth_i (i : Int) : (D.int i).truth = .ok (i != 0) := rfl
@[simp] theorem truth_l (ds : List D) : (D.list ds).truth = .ok (!ds.isEmpty) := rfl
@[simp] theorem truth_t (ds : List D) : (D.tuple ds).truth = .ok (!ds.isEmpty) := rfl
theorem mulOk_l {i j : Int} (h : -(2 ^ 64) < i) (h2 : i < 2 ^ 64) : MulOk i j := .inl ⟨h, h2⟩
theorem mulOk_r' {i j : Int} (h : -(2 ^ 64) < j) (h2 : j < 2 ^ 64) : MulOk i j := .inr (.inl ⟨h, h2⟩)
theorem pow_mono2 {a b : Nat} (h : a ≤ b) : 2 ^ a ≤ 2 ^ b := Nat.pow_le_pow_right (by decide) h
theorem divOk_of {j : Int} {n : Nat} (h : 0 < j) (h2 : j < 2 ^ n) (hn : n ≤ 8000) : DivOk j := by
  refine ⟨h, ?_⟩
  have h3 : j.natAbs < 2 ^ n := by
    have h4 : ((j.natAbs : Nat) : Int) = j := Int.natAbs_of_nonneg (by omega)
    have h5 : ((j.natAbs : Nat) : Int) < ((2 ^ n : Nat) : Int) := by
      rw [h4, Int.natCast_pow]
      exact h2
    exact Int.ofNat_lt.mp h5
  exact Nat.lt_of_lt_of_le h3 (pow_mono2 hn)
end DL

namespace DL
open PySem L2 PyProof.Rows
/-! ### promises by a domain -/
open Classical in
/-- f's answers on the arguments enc x, for the x that P lets in -/
noncomputable def spec {α : Type} (Pr : α → Prop) (enc : α → List Ce) (res : α → Ce × List Ce) : Sf := fun cs => if h : ∃ x, Pr x ∧ cs = enc x then .ok (res h.choose) else .no
open Classical in
theorem spec_inv {α : Type} {Pr : α → Prop} {enc : α → List Ce} {res : α → Ce × List Ce} {cs : List Ce} {r : Ce × List Ce} (h : spec Pr enc res cs = .ok r) : ∃ x, Pr x ∧ cs = enc x ∧ r = res x := by
  unfold spec at h
  by_cases hx : ∃ x, Pr x ∧ cs = enc x
  · rw [dif_pos hx] at h
    exact ⟨hx.choose, hx.choose_spec.1, hx.choose_spec.2, (Rs.ok.inj h).symm⟩
  · rw [dif_neg hx] at h
    cases h
open Classical in
theorem spec_ok {α : Type} {Pr : α → Prop} {enc : α → List Ce} {res : α → Ce × List Ce} {x : α} {cs : List Ce} (he : cs = enc x) (hx : Pr x) (inj : ∀ y, Pr y → enc x = enc y → res y = res x) : spec Pr enc res cs = .ok (res x) := by
  subst he
  unfold spec
  have h : ∃ y, Pr y ∧ enc x = enc y := ⟨x, hx, rfl⟩
  rw [dif_pos h]
  rw [inj h.choose h.choose_spec.1 h.choose_spec.2]
open Classical in
/-- f's answers are what its body m gives, on the arguments of Dm -/
noncomputable def specR (Dm : List Ce → Prop) (n : Nat) (m : En → Out) : Sf := fun cs => if Dm cs then runD n m cs else .no
open Classical in
theorem specR_inv {Dm : List Ce → Prop} {n : Nat} {m : En → Out} {cs : List Ce} {r : Ce × List Ce} (h : specR Dm n m cs = .ok r) : Dm cs ∧ runD n m cs = .ok r := ite_ok h
open Classical in
theorem specR_ok {Dm : List Ce → Prop} {n : Nat} {m : En → Out} {cs : List Ce} (h : Dm cs) : specR Dm n m cs = runD n m cs := if_pos h
theorem specR_sem {Dm : List Ce → Prop} {n l : Nat} {m : En → Out} (hl : ∀ cs, Dm cs → cs.length = l) : ∀ cs c outs, specR Dm n m cs = .ok (c, outs) → cs.length = l ∧ runD n m cs = .ok (c, outs) := fun cs c outs h =>
  ⟨hl cs (specR_inv h).1, (specR_inv h).2⟩
theorem map_int_inj {a b : List Int} (h : a.map D.int = b.map D.int) : a = b := by
  have : Function.Injective D.int := fun x y e => by cases e; rfl
  exact (List.map_inj_right (fun x y e => this e)).mp h
/-! ### loops by an invariant -/
/-- I: what holds ahead of each turn, by what is left; Fi: behind the loop; Re: of what is handed back within it -/
theorem loopL_inv {t : Tg} {b : En → Out} (I : List D → En → Prop) (Fi : En → Prop) (Re : Ce → En → Prop)
    (step : ∀ d ds e, I (d :: ds) e → ∃ e1, t d e = .ok e1 ∧ ((∃ e2, (b e1 = .nx e2 ∨ b e1 = .ct e2) ∧ I ds e2) ∨ (∃ e2, b e1 = .bk e2 ∧ Fi e2) ∨ ∃ c e2, b e1 = .rt c e2 ∧ Re c e2))
    (fin : ∀ e, I [] e → Fi e) : ∀ (ds : List D) (e : En), I ds e → (∃ e', loopL t b ds e = .nx e' ∧ Fi e') ∨ ∃ c e', loopL t b ds e = .rt c e' ∧ Re c e'
  | [], e, h => .inl ⟨e, rfl, fin e h⟩
  | d :: ds, e, h => by
    obtain ⟨e1, h1, h2⟩ := step d ds e h
    rw [loopL_cons, h1]
    rcases h2 with ⟨e2, h3 | h3, h4⟩ | ⟨e2, h3, h4⟩ | ⟨c, e2, h3, h4⟩
    · simp only [h3]
      exact loopL_inv I Fi Re step fin ds e2 h4
    · simp only [h3]
      exact loopL_inv I Fi Re step fin ds e2 h4
    · simp only [h3]
      exact .inl ⟨e2, rfl, h4⟩
    · simp only [h3]
      exact .inr ⟨c, e2, rfl, h4⟩
/-- .. a loop that nothing leaves -/
theorem loopL_nx {t : Tg} {b : En → Out} (I : List D → En → Prop)
    (step : ∀ d ds e, I (d :: ds) e → ∃ e1 e2, t d e = .ok e1 ∧ b e1 = .nx e2 ∧ I ds e2) : ∀ (ds : List D) (e : En), I ds e → ∃ e', loopL t b ds e = .nx e' ∧ I [] e'
  | [], e, h => ⟨e, rfl, h⟩
  | d :: ds, e, h => by
    obtain ⟨e1, e2, h1, h2, h3⟩ := step d ds e h
    rw [loopL_cons, h1]
    simp only [h2]
    exact loopL_nx I step ds e2 h3
/-- a loop as a fold: S tells the environment by a state -/
theorem loopL_fold {α σ : Type} {t : Tg} {b : En → Out} (enc : α → D) (S : σ → En → Prop) (f : σ → α → σ) (P : σ → List α → Prop)
    (step : ∀ x xs s e, P s (x :: xs) → S s e → ∃ e1 e2, t (enc x) e = .ok e1 ∧ b e1 = .nx e2 ∧ S (f s x) e2 ∧ P (f s x) xs) : ∀ (xs : List α) (s : σ) (e : En), P s xs → S s e → ∃ e', loopL t b (xs.map enc) e = .nx e' ∧ S (xs.foldl f s) e' ∧ P (xs.foldl f s) []
  | [], s, e, hp, hs => ⟨e, rfl, hs, hp⟩
  | x :: xs, s, e, hp, hs => by
    obtain ⟨e1, e2, h1, h2, h3, h4⟩ := step x xs s e hp hs
    rw [List.map_cons, loopL_cons, h1]
    simp only [h2]
    exact loopL_fold enc S f P step xs (f s x) e2 h4 h3
theorem rgD_map (lo : Int) : ∀ n : Nat, rgD lo n = (List.range n).map fun (i : Nat) => D.int (lo + (i : Int))
  | 0 => rfl
  | n + 1 => by
    rw [rgD, rgD_map (lo + 1) n, List.range_succ_eq_map, List.map_cons, List.map_map]
    congr 1
    · simp
    · apply List.map_congr_left
      intro i _
      simp only [Function.comp]
      congr 1
      omega
/-- while, by a measure -/
theorem while_inv {t : M Bool} {b : En → Out} (I : Nat → En → Prop) (Fi : En → Prop) (Re : Ce → En → Prop)
    (step : ∀ n e, I n e → ∃ k e1, t e = .ok (k, e1) ∧ (k = false → Fi e1) ∧ (k = true → (∃ e2 m, (b e1 = .nx e2 ∨ b e1 = .ct e2) ∧ m < n ∧ I m e2) ∨ (∃ e2, b e1 = .bk e2 ∧ Fi e2) ∨ ∃ c e2, b e1 = .rt c e2 ∧ Re c e2)) :
    ∀ (n : Nat) (e : En), I n e → (∃ e', sWhile t b e = .nx e' ∧ Fi e') ∨ ∃ c e', sWhile t b e = .rt c e' ∧ Re c e' := by
  intro n
  induction n using Nat.strongRecOn with
  | ind n ih =>
    intro e h
    obtain ⟨k, e1, h1, h2, h3⟩ := step n e h
    rw [sWhile_eq, h1]
    cases k with
    | false => exact .inl ⟨e1, rfl, h2 rfl⟩
    | true =>
      simp only
      rcases h3 rfl with ⟨e2, m, h4 | h4, h5, h6⟩ | ⟨e2, h4, h5⟩ | ⟨c, e2, h4, h5⟩
      · simp only [h4]
        exact ih m h5 e2 h6
      · simp only [h4]
        exact ih m h5 e2 h6
      · simp only [h4]
        exact .inl ⟨e2, rfl, h5⟩
      · simp only [h4]
        exact .inr ⟨c, e2, rfl, h5⟩
/-! ### comprehensions -/
theorem wipeE_idem {e e1 : En} {vs is : List Nat} {t : Tg} {d : D} (to : TgOk t is) (hs : ∀ i ∈ is, i ∈ vs) (h : t d (wipeE e vs) = .ok e1) : wipeE e1 vs = wipeE e vs := by
  apply List.ext_getElem?
  intro j
  have hl : e1.length = e.length := by rw [to.ln _ _ _ h, wipeE_len]
  rw [wipeE_get, wipeE_get]
  by_cases hv : j ∈ vs
  · rw [if_pos hv, if_pos hv]
    by_cases hj : j < e.length
    · rw [List.getElem?_eq_getElem hj, List.getElem?_eq_getElem (by omega)]; rfl
    · rw [List.getElem?_eq_none (Nat.le_of_not_lt hj), List.getElem?_eq_none (by omega)]
  · rw [if_neg hv, if_neg hv, to.ne _ _ _ h j (fun z => hv (hs j z)), wipeE_get, if_neg hv]
theorem tg_fr {e e1 : En} {vs is : List Nat} {t : Tg} {d : D} (to : TgOk t is) (h : t d (wipeE e vs) = .ok e1) : vs.all (frozenAt e1) = true := by
  rw [List.all_eq_true]
  intro j hj
  refine to.fz _ _ _ h j (.inr ?_)
  unfold frozenAt
  rw [wipeE_get, if_pos hj]
  cases e[j]? <;> rfl
theorem restE_same {e e' : En} {vs : List Nat} (h : wipeE e' vs = wipeE e vs) : restE e e' vs = e := by
  have hl : e'.length = e.length := by
    have := congrArg List.length h
    rwa [wipeE_len, wipeE_len] at this
  apply List.ext_getElem?
  intro j
  rw [restE_get e e' hl]
  by_cases hv : j ∈ vs
  · rw [if_pos hv]
  · rw [if_neg hv]
    have := congrArg (fun l => l[j]?) h
    simp only [wipeE_get, if_neg hv] at this
    exact this
theorem cLoop_pure {t : Tg} {vs is : List Nat} {c : M Bool} {m : M D} (to : TgOk t is) (hs : ∀ i ∈ is, i ∈ vs) (f : D → Option D) (e0 : En) : ∀ (ds acc : List D) (e : En), vs.all (frozenAt e) = true → wipeE e vs = wipeE e0 vs → acc.length + ds.length < 16000000 →
    (∀ d ∈ ds, ∃ e1, t d (wipeE e0 vs) = .ok e1 ∧ c e1 = .ok ((f d).isSome, e1) ∧ ∀ x, f d = some x → m e1 = .ok (x, e1)) → ∃ e', cLoop t vs c m ds acc e = .ok (acc ++ ds.filterMap f, e') ∧ wipeE e' vs = wipeE e0 vs
  | [], acc, e, hf, hw, _, _ => ⟨e, by unfold cLoop; rw [if_pos hf]; simp, hw⟩
  | d :: ds, acc, e, hf, hw, hz, h => by
    obtain ⟨e1, h1, h2, h3⟩ := h d List.mem_cons_self
    have hw1 := wipeE_idem to hs h1
    have hf1 := tg_fr to h1
    unfold cLoop
    rw [if_pos hf, hw, h1]
    simp only [Rs.bind_ok, h2]
    cases q : f d with
    | none =>
      simp only [Option.isSome_none, Bool.false_eq_true, if_false]
      obtain ⟨e', g1, g2⟩ := cLoop_pure to hs f e0 ds acc e1 hf1 hw1 (by simp at hz; omega) fun d hd => h d (List.mem_cons_of_mem _ hd)
      exact ⟨e', by rw [g1, List.filterMap_cons_none q], g2⟩
    | some x =>
      simp only [Option.isSome_some, if_true]
      rw [h3 x q]
      simp only [Rs.bind_ok]
      rw [if_pos (show acc.length < 16000000 by omega)]
      obtain ⟨e', g1, g2⟩ := cLoop_pure to hs f e0 ds (acc ++ [x]) e1 hf1 hw1 (by simp at hz ⊢; omega) fun d hd => h d (List.mem_cons_of_mem _ hd)
      exact ⟨e', by rw [g1, List.filterMap_cons_some q]; simp, g2⟩
/-- a comprehension that changes nothing -/
theorem mComp_pure {src : M (List D)} {t : Tg} {vs is : List Nat} {c : M Bool} {m : M D} {e : En} {ds : List D} (f : D → Option D) (hsrc : src e = .ok (ds, e)) (to : TgOk t is) (hs : ∀ i ∈ is, i ∈ vs) (hf : vs.all (frozenAt e) = true) (hz : ds.length < 16000000)
    (h : ∀ d ∈ ds, ∃ e1, t d (wipeE e vs) = .ok e1 ∧ c e1 = .ok ((f d).isSome, e1) ∧ ∀ x, f d = some x → m e1 = .ok (x, e1)) : mComp src t vs c m e = .ok (.l false (ds.filterMap f), e) := by
  obtain ⟨e', h1, h2⟩ := cLoop_pure to hs f e ds [] e hf rfl (by simpa using hz) h
  rw [mComp_r, hsrc]
  simp only [Rs.bind_ok, h1, List.nil_append]
  rw [restE_same h2]
/-- .. without a test -/
theorem mComp_map {src : M (List D)} {t : Tg} {vs is : List Nat} {m : M D} {e : En} {ds : List D} (f : D → D) (hsrc : src e = .ok (ds, e)) (to : TgOk t is) (hs : ∀ i ∈ is, i ∈ vs) (hf : vs.all (frozenAt e) = true) (hz : ds.length < 16000000)
    (h : ∀ d ∈ ds, ∃ e1, t d (wipeE e vs) = .ok e1 ∧ m e1 = .ok (f d, e1)) : mComp src t vs mYes m e = .ok (.l false (ds.map f), e) := by
  rw [mComp_pure (fun d => some (f d)) hsrc to hs hf hz]
  · show Rs.ok (Ce.l false (List.filterMap (some ∘ f) ds), e) = _
    rw [List.filterMap_eq_map]
  · intro d hd
    obtain ⟨e1, h1, h2⟩ := h d hd
    exact ⟨e1, h1, rfl, fun x hx => by cases hx; exact h2⟩
/-- a comprehension by an invariant of what is made and the environment -/
theorem cLoop_inv {t : Tg} {vs : List Nat} {c : M Bool} {m : M D} (I : List D → List D → En → Prop) (hfr : ∀ ds acc e, I ds acc e → vs.all (frozenAt e) = true)
    (step : ∀ d ds acc e, I (d :: ds) acc e → ∃ e1 b e2, t d (wipeE e vs) = .ok e1 ∧ c e1 = .ok (b, e2) ∧ (b = false → I ds acc e2) ∧ (b = true → ∃ x e3, m e2 = .ok (x, e3) ∧ acc.length < 16000000 ∧ I ds (acc ++ [x]) e3)) :
    ∀ (ds acc : List D) (e : En), I ds acc e → ∃ acc' e', cLoop t vs c m ds acc e = .ok (acc', e') ∧ I [] acc' e'
  | [], acc, e, h => ⟨acc, e, by unfold cLoop; rw [if_pos (hfr _ _ _ h)], h⟩
  | d :: ds, acc, e, h => by
    obtain ⟨e1, b, e2, h1, h2, h3, h4⟩ := step d ds acc e h
    unfold cLoop
    rw [if_pos (hfr _ _ _ h), h1]
    simp only [Rs.bind_ok, h2]
    cases b with
    | false =>
      simp only [Bool.false_eq_true, if_false]
      exact cLoop_inv I hfr step ds acc e2 (h3 rfl)
    | true =>
      obtain ⟨x, e3, h5, h6, h7⟩ := h4 rfl
      simp only [if_true, h5, Rs.bind_ok]
      rw [if_pos h6]
      exact cLoop_inv I hfr step ds (acc ++ [x]) e3 h7
theorem powD_i {i j : Int} (h : 0 ≤ j ∧ j ≤ 10000 ∧ i.natAbs < 2 ^ 64) : powD (.int i) (.int j) = .ok (.f (.int (i ^ j.toNat))) := if_pos h
@[simp] theorem powD_10_18 : powD (.int 10) (.int 18) = .ok (.f (.int 1000000000000000000)) := by
  rw [powD_i (by decide)]
  rfl
@[simp] theorem powD_10_9 : powD (.int 10) (.int 9) = .ok (.f (.int 1000000000)) := by
  rw [powD_i (by decide)]
  rfl
@[simp] theorem isT_ii (i : Int) : isT "int" (.int i) = true := by simp [isT, D.ty]
@[simp] theorem isT_ib (b : Bool) : isT "int" (.bool b) = true := by simp [isT, D.ty]
@[simp] theorem isT_in : isT "int" .none = false := by simp [isT, D.ty]
@[simp] theorem isT_is (s : Str) : isT "int" (.str s) = false := by simp [isT, D.ty]
@[simp] theorem isT_it (ds : List D) : isT "int" (.tuple ds) = false := by simp [isT, D.ty]
@[simp] theorem isT_il (ds : List D) : isT "int" (.list ds) = false := by simp [isT, D.ty]
@[simp] theorem isT_bi (i : Int) : isT "bool" (.int i) = false := by simp [isT, D.ty]
@[simp] theorem isT_bb (b : Bool) : isT "bool" (.bool b) = true := by simp [isT, D.ty]
@[simp] theorem isT_bn : isT "bool" .none = false := by simp [isT, D.ty]
@[simp] theorem isT_bs (s : Str) : isT "bool" (.str s) = false := by simp [isT, D.ty]
@[simp] theorem isT_bt (ds : List D) : isT "bool" (.tuple ds) = false := by simp [isT, D.ty]
@[simp] theorem isT_bl (ds : List D) : isT "bool" (.list ds) = false := by simp [isT, D.ty]
@[simp] theorem isT_si (i : Int) : isT "str" (.int i) = false := by simp [isT, D.ty]
@[simp] theorem isT_sb (b : Bool) : isT "str" (.bool b) = false := by simp [isT, D.ty]
@[simp] theorem isT_sn : isT "str" .none = false := by simp [isT, D.ty]
@[simp] theorem isT_ss (s : Str) : isT "str" (.str s) = true := by simp [isT, D.ty]
@[simp] theorem isT_st (ds : List D) : isT "str" (.tuple ds) = false := by simp [isT, D.ty]
@[simp] theorem isT_sl (ds : List D) : isT "str" (.list ds) = false := by simp [isT, D.ty]
@[simp] theorem isT_ti (i : Int) : isT "tuple" (.int i) = false := by simp [isT, D.ty]
@[simp] theorem isT_tb (b : Bool) : isT "tuple" (.bool b) = false := by simp [isT, D.ty]
@[simp] theorem isT_tn : isT "tuple" .none = false := by simp [isT, D.ty]
@[simp] theorem isT_ts (s : Str) : isT "tuple" (.str s) = false := by simp [isT, D.ty]
@[simp] theorem isT_tt (ds : List D) : isT "tuple" (.tuple ds) = true := by simp [isT, D.ty]
@[simp] theorem isT_tl (ds : List D) : isT "tuple" (.list ds) = false := by simp [isT, D.ty]
end DL

namespace DL
open PySem L2 PyProof.Rows
/-! ### lists of ints, loops by the turn -/
def D.isI : D → Bool
  | .int _ => true
  | _ => false
theorem isI_int {d : D} (h : d.isI = true) : ∃ i, d = .int i := by
  cases d <;> first | exact ⟨_, rfl⟩ | cases h
theorem allI_app {xs : List D} {i : Int} (h : xs.all D.isI = true) : (xs ++ [D.int i]).all D.isI = true := by
  rw [List.all_append, h]
  rfl
theorem allI_map {xs : List D} (h : xs.all D.isI = true) : ∃ ds : List Int, xs = ds.map D.int := by
  induction xs with
  | nil => exact ⟨[], rfl⟩
  | cons x xs ih =>
    rw [List.all_cons, Bool.and_eq_true] at h
    obtain ⟨ds, rfl⟩ := ih h.2
    obtain ⟨j, rfl⟩ := isI_int h.1
    exact ⟨j :: ds, rfl⟩
theorem allI_ints (ds : List Int) : (ds.map D.int).all D.isI = true := by
  induction ds with
  | nil => rfl
  | cons a l ih => exact ih
theorem allI_rg (lo : Int) : ∀ n, (rgD lo n).all D.isI = true
  | 0 => rfl
  | n + 1 => allI_rg (lo + 1) n
theorem ioAt_f {e : En} {i : Nat} {a : Option D} (h : e[i]? = some (a.map Ce.f)) : ioAt e i = false := by
  unfold ioAt
  rw [h]
  cases a <;> rfl
theorem tgN_f {e : En} {i : Nat} {a : Option D} {d : D} (h : e[i]? = some (a.map Ce.f)) : tgN i d e = .ok (e.set i (some (.f d))) := by
  rw [tgN_r, ioAt_f h]
  rfl
theorem loop_nx {t : Tg} {b : En → Out} {d : D} {ds : List D} {e e1 e2 : En} (h1 : t d e = .ok e1) (h2 : b e1 = .nx e2) : loopL t b (d :: ds) e = loopL t b ds e2 := by
  rw [loopL_cons, h1]
  simp only [h2]
theorem loop_ct {t : Tg} {b : En → Out} {d : D} {ds : List D} {e e1 e2 : En} (h1 : t d e = .ok e1) (h2 : b e1 = .ct e2) : loopL t b (d :: ds) e = loopL t b ds e2 := by
  rw [loopL_cons, h1]
  simp only [h2]
theorem loop_bk {t : Tg} {b : En → Out} {d : D} {ds : List D} {e e1 e2 : En} (h1 : t d e = .ok e1) (h2 : b e1 = .bk e2) : loopL t b (d :: ds) e = .nx e2 := by
  rw [loopL_cons, h1]
  simp only [h2]
theorem loop_rt {t : Tg} {b : En → Out} {d : D} {ds : List D} {e e1 e2 : En} {c : Ce} (h1 : t d e = .ok e1) (h2 : b e1 = .rt c e2) : loopL t b (d :: ds) e = .rt c e2 := by
  rw [loopL_cons, h1]
  simp only [h2]
theorem seq_nx {a b : En → Out} {e e' : En} (h : a e = .nx e') : sSeq a b e = b e' := by
  rw [sSeq_r, h]
theorem seq_rt {a b : En → Out} {e e' : En} {c : Ce} (h : a e = .rt c e') : sSeq a b e = .rt c e' := by
  rw [sSeq_r, h]
theorem seq_bk {a b : En → Out} {e e' : En} (h : a e = .bk e') : sSeq a b e = .bk e' := by
  rw [sSeq_r, h]
theorem while_t {t : M Bool} {b : En → Out} {e e1 e2 : En} (h1 : t e = .ok (true, e1)) (h2 : b e1 = .nx e2) : sWhile t b e = sWhile t b e2 := by
  rw [sWhile_eq, h1]
  simp only [h2]
theorem while_f {t : M Bool} {b : En → Out} {e e1 : En} (h1 : t e = .ok (false, e1)) : sWhile t b e = .nx e1 := by
  rw [sWhile_eq, h1]
theorem rng1_r {ma : M (List D)} {e e' : En} {n : Int} (h : ma e = .ok ([.int n], e')) (h1 : -(2 ^ 62) ≤ n) (h2 : n < 2 ^ 62) : mRng1 ma e = .ok (rgD 0 n.toNat, e') := by
  rw [mRng1_r, h]
  exact if_pos ⟨h1, h2⟩
theorem ixD_roN {ds : List D} {i : Int} {d : D} (h0 : 0 ≤ i) (h : ds[i.toNat]? = some d) : ixD (.ro ds) (.int i) = .ok (.f d) := by
  have := ixD_rn (n := i.toNat) h
  rwa [Int.toNat_of_nonneg h0] at this
theorem ixD_lN {ds : List D} {i : Int} {d : D} (h0 : 0 ≤ i) (h : ds[i.toNat]? = some d) : ixD (.list ds) (.int i) = .ok (.f d) := by
  have := ixD_ln (n := i.toNat) h
  rwa [Int.toNat_of_nonneg h0] at this
theorem ixD_tN {ds : List D} {i : Int} {d : D} (h0 : 0 ≤ i) (h : ds[i.toNat]? = some d) : ixD (.tuple ds) (.int i) = .ok (.f d) := by
  have := ixD_tn (n := i.toNat) h
  rwa [Int.toNat_of_nonneg h0] at this
end DL

namespace DL
open PySem L2 PyProof.Rows
/-! ### what is never come to; defs joined -/
def sNo : En → Out := fun _ => .no
@[simp] theorem sNo_r (e : En) : sNo e = .no := Eq.trans rfl rfl
theorem pds_no {X : Cx} {sts : List Stmt} : PDs X sts sNo := ⟨fun _ _ _ _ _ _ ⟨_, _, _, _, h⟩ => h.elim⟩
theorem pds_never {X : Cx} {st : Stmt} : PDS X st sNo := ⟨fun _ _ _ _ _ _ ⟨_, _, _, _, h⟩ => h.elim⟩
section
variable {P : Program} {w : World} {K : PySem.W.Frag} {mg : Str → Option Value} {base : Heap}
theorem dfn_no {x : Str} {st : Stmt} {f : Addr} {fd : FuncData} {N ps : List Str} (A : At1 K mg x st ps f fd) (Sc : FnScope N ps (defScope st)) (hN : ps.length ≤ N.length) : DFn P w K mg base x 1 (fun _ => .no) :=
  dfn_ok A Sc hN sNo (fun _ _ _ _ _ _ _ => pds_no) fun _ _ _ h => by cases h
/-- the law's own -/
theorem DFn.law {x : Str} {k : Nat} {S : Sf} {st : Stmt} {f : Addr} {fd : FuncData} {N ps : List Str} (A : At1 K mg x st ps f fd) (Sc : FnScope N ps (defScope st)) (hN : ps.length ≤ N.length) (m : En → Out)
    (hb : ∀ (cdv : Value) (A : Around) (outer : List PySem.Env) (s : Shared) (H : Hp) (E : XK), Room k (A.deeper (envOfC x (defScope st) s.heap.objs.size f cdv)) → PDs (XX P w K mg base N x (defScope st) f cdv A outer s H E) (defBody st) m)
    (hS : ∀ cs c outs, S cs = .ok (c, outs) → cs.length = ps.length ∧ runD N.length m cs = .ok (c, outs)) : FnD P w K mg base (k + 1) f fd ps S := fnD_ok A.fn Sc hN m hb hS
theorem law_sem {n N : Nat} {m : En → Out} (h : ∀ ns : List Int, runD N m [.f (.ro (ns.map .int))] = .ok (.f (.bool true), [])) : ∀ cs c outs, lawS n cs = .ok (c, outs) → cs.length = 1 ∧ runD N m cs = .ok (c, outs) := by
  intro cs c outs hl
  obtain ⟨ns, _, rfl, rfl, rfl⟩ := lawS_ok hl
  exact ⟨rfl, h ns⟩
end
end DL

namespace DL
open PySem L2 PyProof.Rows RT RZ
/-! ### slices -/
def cutD (ds : List D) (lo hi : Option Int) : List D := (ds.drop (HT.sIx ds.length 0 lo)).take (HT.sIx ds.length ds.length hi - HT.sIx ds.length 0 lo)
def slD (x : D) (lo hi : Option Int) : Rs Ce := match x with
  | .tuple ds => .ok (.f (.tuple (cutD ds lo hi)))
  | .list ds => .ok (.l false (cutD ds lo hi))
  | .ro ds => .ok (.l false (cutD ds lo hi))
  | .str s => if s.length ≤ sizeLine then .ok (.f (.str (Txt.slice s lo hi))) else .no
  | _ => .no
def rSlD (K : PySem.W.Frag) : V → Option Int → Option Int → Hp → VK → Prop := fun x lo hi H Q => rSlG K x lo hi H Q ∨ (rSlL K x lo hi H Q ∨ C8.rSlX x lo hi H Q)
theorem sl_all {X : Cx} : SlR X (rSlD X.K) := sl_tupG.or (sl_list.or C8.sl_txt)
section
variable {X : Cx} {tg ex ey ez : Expr} {es : List Expr} {pos p p2 : Pos} {x : Str} {K : PySem.W.Frag} {lo hi : Option Expr}
def tO (K : PySem.W.Frag) (m : M (Option Int)) : TO := fun σ H Q => ∃ G F e d e', R K G F H σ e ∧ m e = .ok (d, e') ∧ ∀ F' H', Nx K G σ F H e F' H' e' → Q d H'
abbrev POd (X : Cx) (e : Option Expr) (m : M (Option Int)) : Prop := PO X e (tO X.K m)
def mO0 : M (Option Int) := fun e => .ok (none, e)
def mO1 (m : M D) : M (Option Int) := fun e => (m e).bind fun p => match p.1 with
  | .int i => .ok (some i, p.2)
  | _ => .no
theorem POimp {t t' : TO} {e : Option Expr} (h : PO X e t) (hi : ∀ σ H Q, t' σ H Q → t σ H Q) : PO X e t' := ⟨fun pins s σ H Q I q => h.run pins s σ H Q I (hi σ H Q q)⟩
theorem pod_none : POd X none mO0 := POimp po_none fun σ H Q ⟨G, F, e, d, e', r, hm, q⟩ => by
  cases hm
  exact q F H (Nx.refl r)
theorem pod_some {m : M D} (h : PF X ex m) : POd X (some ex) (mO1 m) := POimp (po_some h) fun σ H Q ⟨G, F, e, d, e', r, hm, q⟩ => by
  obtain ⟨x, e1, h1, hm⟩ := bind_ok2 hm
  simp only at hm
  split at hm
  · cases hm
    exact ⟨G, F, e, _, _, r, h1, fun v F' H' n hd => ⟨_, hd.int_inv, q F' H' n⟩⟩
  · cases hm
def mSlice (ma : M Hd) (ml mu : M (Option Int)) : M Ce := fun e => (ma e).bind fun p => (ml p.2).bind fun q => (mu q.2).bind fun r => (p.1.get r.2).bind fun x => (slD x q.1 r.1).bind fun c => .ok (c, r.2)
@[simp] theorem mSlice_r (ma : M Hd) (ml mu : M (Option Int)) (e : En) : mSlice ma ml mu e = (ma e).bind fun p => (ml p.2).bind fun q => (mu q.2).bind fun r => (p.1.get r.2).bind fun x => (slD x q.1 r.1).bind fun c => .ok (c, r.2) := Eq.trans rfl rfl
@[simp] theorem mO0_r (e : En) : mO0 e = .ok (none, e) := Eq.trans rfl rfl
@[simp] theorem mO1_r (m : M D) (e : En) : mO1 m e = (m e).bind fun p => match p.1 with
  | .int i => .ok (some i, p.2)
  | _ => .no := Eq.trans rfl rfl
theorem DnA.cut {F : Hp} {xs : List V} {ds : List D} (h : DnA K F xs ds) (lo hi : Option Int) : DnA K F (cutV xs lo hi) (cutD ds lo hi) := by
  unfold cutV cutD
  rw [h.len]
  exact DnA.take _ (DnA.drop _ h)
theorem cutD_whole (ds : List D) (lo hi : Option Int) (h : HT.sIx ds.length 0 lo = 0 ∧ HT.sIx ds.length ds.length hi = ds.length) : cutD ds lo hi = ds := by
  unfold cutD
  rw [h.1, h.2]
  simp
theorem snd_sl (F H : Hp) (x : V) (dx : D) (lo hi : Option Int) (c : Ce) (Q : VK) (fh : Ex F H) (hx : Vw K F H dx x) (hg : slD dx lo hi = .ok c) (q : ∀ v F' H', Go F H F' H' noA → NAt K H F' H' c v → Q v H') : rSlD K x lo hi H Q := by
  cases dx with
  | tuple ds =>
    cases hg
    obtain ⟨a, xs, rfl, h3, h4, h4d⟩ := hx.tuple fh
    refine .inl ⟨a, xs, rfl, h3, fun hw => ?_, fun hw p its hp => ?_⟩
    · rw [h4.len] at hw
      rw [cutD_whole ds lo hi hw] at q
      exact ret1 fh h4d rfl q
    · have go : Go F H (upd F p (.frz (gO its) (.tup (cutV xs lo hi)))) (upd H p (.frz (gO its) (.tup (cutV xs lo hi)))) noA := Go.newF fh hp
      exact q _ _ _ go (.inl ⟨_, rfl, .tup (.inl upd_same) ((h4.cut lo hi).mono go.ff)⟩)
  | list ds =>
    cases hg
    obtain ⟨a, xs, rfl, h3, h4⟩ := hx.list fh
    refine .inr (.inl ⟨a, xs, rfl, SqL.of h3, fun p hp => ?_⟩)
    exact q _ F _ (Go.newO fh hp) (.inr ⟨rfl, p, _, _, rfl, hp, ex_none fh hp, upd_same, rfl, h4.cut lo hi⟩)
  | ro ds =>
    cases hg
    obtain ⟨a, xs, rfl, h3, h4⟩ := hx.ro fh
    refine .inr (.inl ⟨a, xs, rfl, h3, fun p hp => ?_⟩)
    exact q _ F _ (Go.newO fh hp) (.inr ⟨rfl, p, _, _, rfl, hp, ex_none fh hp, upd_same, rfl, h4.cut lo hi⟩)
  | str s =>
    obtain ⟨h1, hg⟩ := ite_ok hg
    cases hg
    rw [hx.str]
    exact .inr (.inr ⟨s, rfl, h1, ret1 fh (.str _) rfl q⟩)
  | tupW ds => cases hg
  | none => cases hg
  | bool b => cases hg
  | int i => cases hg
  | dict t ks vs => cases hg
theorem pn_slice {ma : M Hd} {ml mu : M (Option Int)} (ha : PH X ex ma) (hl : POd X lo ml) (hu : POd X hi mu) : PN X (.Subscript ex (.Slice lo hi none p2) pos) (mSlice ma ml mu) := PEimp (pe_slice sl_all ha hl hu) fun σ H Q ⟨G, F, e, c, e', rr, hm, q⟩ => by
  obtain ⟨x, e1, h1, hm⟩ := bind_ok2 hm
  obtain ⟨l, e2, h2, hm⟩ := bind_ok2 hm
  obtain ⟨u, e3, h3, hm⟩ := bind_ok2 hm
  obtain ⟨dx, h4, hm⟩ := Rs.bind_eq hm
  obtain ⟨c', h5, hm⟩ := Rs.bind_eq hm
  cases hm
  refine ⟨G, F, e, x, e1, rr, h1, fun vx F1 H1 n1 hx => ⟨G, F1, e1, l, e2, n1.r, h2, fun F2 H2 n2 => ⟨G, F2, e2, u, e3, n2.r, h3, fun F3 H3 n3 => ?_⟩⟩⟩
  refine snd_sl F3 H3 vx dx l u c Q n3.r.fh (((hx.nx n2).nx n3).vw n3.r h4) h5 fun v F' H' go nat => ?_
  have n13 := (n1.trans n2).trans n3
  exact q v F' H' (n13.trans (n3.r.step go)) (nat.back n13.go rr.fh)
/-! ### reversed, enumerate, zip -/
def mRev (m : M D) : M (List D) := fun e => (m e).bind fun p => p.1.items.bind fun ds => .ok (ds.reverse, p.2)
@[simp] theorem mRev_r (m : M D) (e : En) : mRev m e = (m e).bind fun p => p.1.items.bind fun ds => .ok (ds.reverse, p.2) := Eq.trans rfl rfl
theorem wk_rev {F : Hp} {a : Addr} {xs : List V} {ds : List D} (h : SqL K F a xs) (hd : DnA K F xs ds) : Wk K (Itv K a xs.length) F ds.reverse := fun i F2 H2 x1 x2 => by
  have hx := x1.trans x2
  have hl := hd.len
  refine ⟨fun d hi => ?_, fun hi => ?_⟩
  · have hlt : i < ds.length := by
      have := (List.getElem?_eq_some_iff.mp hi).1
      simpa using this
    rw [List.getElem?_reverse hlt] at hi
    obtain ⟨w, h1, h2⟩ := hd.get hi
    rw [← hl] at h1
    refine ⟨⟨by omega, xs, w, Evl.ex_l hx h, h1⟩, fun x H3 y => ?_⟩
    obtain ⟨rfl, y⟩ := y
    have := y xs (Evl.ex_l hx h)
    rw [h1] at this
    cases this
    exact ⟨F2, Go.refl x2, h2.mono x1⟩
  · have := List.getElem?_eq_none_iff.mp hi
    rw [List.length_reverse] at this
    show xs.length ≤ i
    omega
theorem wk_revT {F : Hp} {a : Addr} {xs : List V} {ds : List D} (h : SqT K F a xs) (hd : DnA K F xs ds) : Wk K (ItvT K a xs.length) F ds.reverse := fun i F2 H2 x1 x2 => by
  have hx := x1.trans x2
  have hl := hd.len
  refine ⟨fun d hi => ?_, fun hi => ?_⟩
  · have hlt : i < ds.length := by
      have := (List.getElem?_eq_some_iff.mp hi).1
      simpa using this
    rw [List.getElem?_reverse hlt] at hi
    obtain ⟨w, h1, h2⟩ := hd.get hi
    rw [← hl] at h1
    refine ⟨⟨by omega, xs, w, Evl.ex_t hx h, h1⟩, fun x H3 y => ?_⟩
    obtain ⟨rfl, y⟩ := y
    have := y xs (Evl.ex_t hx h)
    rw [h1] at this
    cases this
    exact ⟨F2, Go.refl x2, h2.mono x1⟩
  · have := List.getElem?_eq_none_iff.mp hi
    rw [List.length_reverse] at this
    show xs.length ≤ i
    omega
/-- what is walked stands in the frozen heap: a list, or a tuple -/
theorem items_at {F : Hp} {v : V} {d : D} {ds : List D} (h : Dn K F v d) (hi : d.items = .ok ds) : ∃ a xs, v = .ref a ∧ (SqL K F a xs ∨ SqT K F a xs) ∧ DnA K F xs ds := by
  cases d <;> first
    | (cases hi; done)
    | skip
  · cases hi
    obtain ⟨a, xs, q1, q2, q3⟩ := h.list_inv
    exact ⟨a, xs, q1, .inl (SqL.of q2), q3⟩
  · cases hi
    obtain ⟨a, xs, q1, q2, q3⟩ := h.tuple_inv
    exact ⟨a, xs, q1, .inr q2, q3⟩
  · cases hi
    obtain ⟨a, xs, q1, q2, q3⟩ := h.ro_inv
    exact ⟨a, xs, q1, .inl q2, q3⟩
theorem pid_rev {m : M D} (hg : Gl X "reversed") (hm : X.mg "reversed" = none) (h : PF X ex m) (hs : starEach [ex] X.env = (false, eval ex X.env) :: starEach [] X.env := by rfl) : PId X tg (.Call (.Name "reversed" p) [ex] [] pos) (mRev m) :=
  PIimp (pi_revA hg hm h hs) fun σ H Q ⟨G, F, e, ds, e', r, hm, q⟩ => by
    obtain ⟨d, e1, h1, hm⟩ := bind_ok2 hm
    obtain ⟨ds', h2, hm⟩ := Rs.bind_eq hm
    cases hm
    refine ⟨G, F, e, _, _, r, h1, fun v F' H' n hn => ?_⟩
    obtain ⟨a, xs, rfl, hl | ht, hd⟩ := items_at hn h2
    · exact ⟨a, xs, rfl, .inl ⟨Evl.ex_l n.r.fh hl, q _ F' H' n (wk_rev hl hd)⟩⟩
    · exact ⟨a, xs, rfl, .inr ⟨Evl.ex_t n.r.fh ht, q _ F' H' n (wk_revT ht hd)⟩⟩
def enD (i : Nat) : List D → List D
  | [] => []
  | d :: ds => .tupW [.int (i : Nat), d] :: enD (i + 1) ds
theorem enD_get : ∀ (ds : List D) (k i : Nat), (enD k ds)[i]? = (ds[i]?).map fun d => .tupW [.int ((k + i : Nat) : Int), d]
  | [], _, _ => by simp [enD]
  | d :: ds, k, 0 => by simp [enD]
  | d :: ds, k, i + 1 => by
    rw [enD, List.getElem?_cons_succ, List.getElem?_cons_succ, enD_get ds (k + 1) i, show k + 1 + i = k + (i + 1) by omega]
def mEnum (m : M D) : M (List D) := fun e => (m e).bind fun p => match p.1 with
  | .list ds => .ok (enD 0 ds, p.2)
  | .ro ds => .ok (enD 0 ds, p.2)
  | _ => .no
@[simp] theorem mEnum_r (m : M D) (e : En) : mEnum m e = (m e).bind fun p => match p.1 with
  | .list ds => .ok (enD 0 ds, p.2)
  | .ro ds => .ok (enD 0 ds, p.2)
  | _ => .no := Eq.trans rfl rfl
/-- a pair that a walk has made -/
theorem pair_new {F2 H2 : Hp} {T : Addr} {x y : V} {dx dy : D} (x2 : Ex F2 H2) (hT : H2 T = none) (hx : Dn K F2 x dx) (hy : Dn K F2 y dy) : ∃ F3, Go F2 H2 F3 (upd H2 T (.tup [x, y])) noA ∧ Dn K F3 (.ref T) (.tupW [dx, dy]) := by
  have go : Go F2 H2 (upd F2 T (.tup [x, y])) (upd H2 T (.tup [x, y])) noA := Go.newF x2 hT
  exact ⟨_, go, .tupW upd_same (.cons (hx.mono go.ff) (.cons (hy.mono go.ff) .nil))⟩
theorem wk_enum {F : Hp} {a : Addr} {xs : List V} {ds : List D} (h : SqL K F a xs) (hd : DnA K F xs ds) : Wk K (Ite K a) F (enD 0 ds) := fun i F2 H2 x1 x2 => by
  have hx := x1.trans x2
  have hl := hd.len
  refine ⟨fun d hi => ?_, fun hi => ?_⟩
  · rw [enD_get] at hi
    obtain ⟨d0, hi0, rfl⟩ := Option.map_eq_some_iff.mp hi
    replace hi := hi0
    obtain ⟨w, h1, h2⟩ := hd.get hi
    refine ⟨⟨xs, w, Evl.ex_l hx h, h1⟩, fun x H3 y => ?_⟩
    obtain ⟨T, z, rfl, hT, rfl, y⟩ := y
    have := y xs (Evl.ex_l hx h)
    rw [h1] at this
    cases this
    rw [Nat.zero_add]
    exact pair_new x2 hT (.int _) (h2.mono x1)
  · rw [enD_get] at hi
    have := List.getElem?_eq_none_iff.mp (Option.map_eq_none_iff.mp hi)
    exact ⟨xs, Evl.ex_l hx h, by omega⟩
theorem pid_enum {m : M D} {elts : List Expr} {kk : Nat} {tpos : Pos} (hg : Gl X "enumerate") (hm : X.mg "enumerate" = none) (h : PAd X [ex] (aCons m aNil)) (hs : starEach [ex] X.env = [(false, eval ex X.env)] := by rfl) : PId X (.Tuple elts kk tpos) (.Call (.Name "enumerate" p) [ex] [] pos) (mEnum m) :=
  PIimp (pi_enum hg hm h hs) fun σ H Q ⟨G, F, e, ds, e', r, hm, q⟩ => by
    obtain ⟨d, e1, h1, hm⟩ := bind_ok2 hm
    simp only at hm
    have h1' : aCons m aNil e = .ok ([d], e1) := by rw [aCons_r, h1]; rfl
    split at hm
    · rename_i ds'
      cases hm
      refine ⟨G, F, e, _, _, r, h1', fun vs F' H' n hd => ?_⟩
      cases hd with
      | cons g t =>
        cases t
        obtain ⟨a, xs, rfl, hl | ht, hd⟩ := items_at g rfl
        · exact ⟨a, xs, rfl, Evl.ex_l n.r.fh hl, q _ F' H' n (wk_enum hl hd)⟩
        · obtain ⟨a', xs', q1, q2, q3⟩ := g.list_inv
          cases q1
          exact ⟨a, xs', rfl, Evl.ex_l n.r.fh (SqL.of q2), q _ F' H' n (wk_enum (SqL.of q2) q3)⟩
    · rename_i ds'
      cases hm
      refine ⟨G, F, e, _, _, r, h1', fun vs F' H' n hd => ?_⟩
      cases hd with
      | cons g t =>
        cases t
        obtain ⟨a', xs', q1, q2, q3⟩ := g.ro_inv
        cases q1
        exact ⟨a', xs', rfl, Evl.ex_l n.r.fh q2, q _ F' H' n (wk_enum q2 q3)⟩
    · cases hm
def ziD : List D → List D → List D
  | a :: as, b :: bs => .tupW [a, b] :: ziD as bs
  | _, _ => []
theorem ziD_get : ∀ (as bs : List D) (i : Nat), (ziD as bs)[i]? = match as[i]?, bs[i]? with
    | some a, some b => some (.tupW [a, b])
    | _, _ => none
  | [], bs, i => by simp [ziD]
  | a :: as, [], i => by cases i <;> simp [ziD] <;> split <;> simp_all
  | a :: as, b :: bs, 0 => by simp [ziD]
  | a :: as, b :: bs, i + 1 => by
    rw [ziD, List.getElem?_cons_succ, List.getElem?_cons_succ, List.getElem?_cons_succ, ziD_get as bs i]
/-- zip of two lists, or of two tuples -/
def ziA : D → D → Rs (List D)
  | .tuple as, .tuple bs => .ok (ziD as bs)
  | .list as, .list bs => .ok (ziD as bs)
  | .list as, .ro bs => .ok (ziD as bs)
  | .ro as, .list bs => .ok (ziD as bs)
  | .ro as, .ro bs => .ok (ziD as bs)
  | _, _ => .no
def mZip (ma mb : M D) : M (List D) := fun e => (ma e).bind fun p => (mb p.2).bind fun q => (ziA p.1 q.1).bind fun ds => .ok (ds, q.2)
@[simp] theorem mZip_r (ma mb : M D) (e : En) : mZip ma mb e = (ma e).bind fun p => (mb p.2).bind fun q => (ziA p.1 q.1).bind fun ds => .ok (ds, q.2) := Eq.trans rfl rfl
@[simp] theorem ziA_tt (as bs : List D) : ziA (.tuple as) (.tuple bs) = .ok (ziD as bs) := rfl
@[simp] theorem ziA_ll (as bs : List D) : ziA (.list as) (.list bs) = .ok (ziD as bs) := rfl
theorem wk_zip {F : Hp} {a b : Addr} {xs ys : List V} {as bs : List D} (h : SqL K F a xs) (hd : DnA K F xs as) (h' : SqL K F b ys) (hd' : DnA K F ys bs) : Wk K (Itz K a b) F (ziD as bs) := fun i F2 H2 x1 x2 => by
  have hx := x1.trans x2
  have hl := hd.len
  have hl' := hd'.len
  refine ⟨fun d hi => ?_, fun hi => ?_⟩
  · rw [ziD_get] at hi
    split at hi
    · rename_i da db g1 g2
      cases hi
      obtain ⟨w, h1, h2⟩ := hd.get g1
      obtain ⟨w', h1', h2'⟩ := hd'.get g2
      refine ⟨⟨xs, ys, w, w', Evl.ex_l hx h, Evl.ex_l hx h', h1, h1'⟩, fun x H3 y => ?_⟩
      obtain ⟨T, z, z', rfl, hT, rfl, y, y'⟩ := y
      have e1 := y xs (Evl.ex_l hx h)
      have e2 := y' ys (Evl.ex_l hx h')
      rw [h1] at e1
      rw [h1'] at e2
      cases e1
      cases e2
      exact pair_new x2 hT (h2.mono x1) (h2'.mono x1)
    · cases hi
  · rw [ziD_get] at hi
    refine ⟨xs, ys, Evl.ex_l hx h, Evl.ex_l hx h', ?_⟩
    rw [hl, hl']
    by_cases g1 : as.length ≤ i
    · exact .inl g1
    · by_cases g2 : bs.length ≤ i
      · exact .inr g2
      · rw [List.getElem?_eq_getElem (by omega), List.getElem?_eq_getElem (by omega)] at hi
        cases hi
theorem wk_zipT {F : Hp} {a b : Addr} {xs ys : List V} {as bs : List D} (h : SqT K F a xs) (hd : DnA K F xs as) (h' : SqT K F b ys) (hd' : DnA K F ys bs) : Wk K (ItzT K a b) F (ziD as bs) := fun i F2 H2 x1 x2 => by
  have hx := x1.trans x2
  have hl := hd.len
  have hl' := hd'.len
  refine ⟨fun d hi => ?_, fun hi => ?_⟩
  · rw [ziD_get] at hi
    split at hi
    · rename_i da db g1 g2
      cases hi
      obtain ⟨w, h1, h2⟩ := hd.get g1
      obtain ⟨w', h1', h2'⟩ := hd'.get g2
      refine ⟨⟨xs, ys, w, w', Evl.ex_t hx h, Evl.ex_t hx h', h1, h1'⟩, fun x H3 y => ?_⟩
      obtain ⟨T, z, z', rfl, hT, rfl, y, y'⟩ := y
      have e1 := y xs (Evl.ex_t hx h)
      have e2 := y' ys (Evl.ex_t hx h')
      rw [h1] at e1
      rw [h1'] at e2
      cases e1
      cases e2
      exact pair_new x2 hT (h2.mono x1) (h2'.mono x1)
    · cases hi
  · rw [ziD_get] at hi
    refine ⟨xs, ys, Evl.ex_t hx h, Evl.ex_t hx h', ?_⟩
    rw [hl, hl']
    by_cases g1 : as.length ≤ i
    · exact .inl g1
    · by_cases g2 : bs.length ≤ i
      · exact .inr g2
      · rw [List.getElem?_eq_getElem (by omega), List.getElem?_eq_getElem (by omega)] at hi
        cases hi
theorem Dn.sq {F : Hp} {v : V} {ds : List D} (h : Dn K F v (.list ds) ∨ Dn K F v (.ro ds)) : ∃ a xs, v = .ref a ∧ SqL K F a xs ∧ DnA K F xs ds := by
  rcases h with h | h
  · obtain ⟨a, xs, q1, q2, q3⟩ := h.list_inv
    exact ⟨a, xs, q1, SqL.of q2, q3⟩
  · exact h.ro_inv
theorem ziA_at {F : Hp} {v w : V} {d d' : D} {ds : List D} (h : Dn K F v d) (h' : Dn K F w d') (hi : ziA d d' = .ok ds) : ∃ a b xs ys as bs, v = .ref a ∧ w = .ref b ∧ ((SqL K F a xs ∧ SqL K F b ys) ∨ (SqT K F a xs ∧ SqT K F b ys)) ∧ DnA K F xs as ∧ DnA K F ys bs ∧ ds = ziD as bs := by
  unfold ziA at hi
  split at hi <;> first
    | (cases hi; done)
    | skip
  · cases hi
    obtain ⟨a, xs, q1, q2, q3⟩ := h.tuple_inv
    obtain ⟨b, ys, q4, q5, q6⟩ := h'.tuple_inv
    exact ⟨a, b, xs, ys, _, _, q1, q4, .inr ⟨q2, q5⟩, q3, q6, rfl⟩
  · cases hi
    obtain ⟨a, xs, q1, q2, q3⟩ := Dn.sq (.inl h)
    obtain ⟨b, ys, q4, q5, q6⟩ := Dn.sq (.inl h')
    exact ⟨a, b, xs, ys, _, _, q1, q4, .inl ⟨q2, q5⟩, q3, q6, rfl⟩
  · cases hi
    obtain ⟨a, xs, q1, q2, q3⟩ := Dn.sq (.inl h)
    obtain ⟨b, ys, q4, q5, q6⟩ := Dn.sq (.inr h')
    exact ⟨a, b, xs, ys, _, _, q1, q4, .inl ⟨q2, q5⟩, q3, q6, rfl⟩
  · cases hi
    obtain ⟨a, xs, q1, q2, q3⟩ := Dn.sq (.inr h)
    obtain ⟨b, ys, q4, q5, q6⟩ := Dn.sq (.inl h')
    exact ⟨a, b, xs, ys, _, _, q1, q4, .inl ⟨q2, q5⟩, q3, q6, rfl⟩
  · cases hi
    obtain ⟨a, xs, q1, q2, q3⟩ := Dn.sq (.inr h)
    obtain ⟨b, ys, q4, q5, q6⟩ := Dn.sq (.inr h')
    exact ⟨a, b, xs, ys, _, _, q1, q4, .inl ⟨q2, q5⟩, q3, q6, rfl⟩
theorem pid_zip {ma mb : M D} {elts : List Expr} {kk : Nat} {tpos : Pos} (hg : Gl X "zip") (hm : X.mg "zip" = none) (h : PAd X [ex, ey] (aCons ma (aCons mb aNil))) (hs : starEach [ex, ey] X.env = (false, eval ex X.env) :: starEach [ey] X.env := by rfl) (hpl : (backTo pos (starEach [ey] X.env)).any (·.1) = false := by rfl) : PId X (.Tuple elts kk tpos) (.Call (.Name "zip" p) [ex, ey] [] pos) (mZip ma mb) :=
  PIimp (pi_zipA hg hm h hs hpl) fun σ H Q ⟨G, F, e, ds, e', r, hm, q⟩ => by
    obtain ⟨d, e1, h1, hm⟩ := bind_ok2 hm
    obtain ⟨d', e2, h2, hm⟩ := bind_ok2 hm
    obtain ⟨ds', h3, hm⟩ := Rs.bind_eq hm
    cases hm
    have h1' : aCons ma (aCons mb aNil) e = .ok ([d, d'], e2) := by
      simp only [aCons_r, h1, Rs.bind_ok, h2, aNil_r]
    refine ⟨G, F, e, _, _, r, h1', fun vs F' H' n hd => ?_⟩
    cases hd with
    | cons g t =>
      cases t with
      | cons g' t =>
        cases t
        obtain ⟨a, b, xs, ys, as, bs, rfl, rfl, q1 | q1, q2, q3, rfl⟩ := ziA_at g g' h3
        · exact ⟨a, b, xs, ys, rfl, .inl ⟨Evl.ex_l n.r.fh q1.1, Evl.ex_l n.r.fh q1.2, q _ F' H' n (wk_zip q1.1 q2 q1.2 q3)⟩⟩
        · exact ⟨a, b, xs, ys, rfl, .inr ⟨Evl.ex_t n.r.fh q1.1, Evl.ex_t n.r.fh q1.2, q _ F' H' n (wk_zipT q1.1 q2 q1.2 q3)⟩⟩
/-! ### o[i] op= e over a list of one's own -/
theorem get_list : PGet X (rIxL X.K) := by
  intro pins s σ H x y v u Q I rx ry h
  obtain ⟨p, xs, i, z, rfl, rfl, hq, he, q⟩ := h
  cases rx
  obtain ⟨t, rfl⟩ := ry
  obtain ⟨its, r, pl, hz⟩ := I.list hq
  obtain ⟨j, h1, h2, h3, h4, h5⟩ := atI_get he
  obtain ⟨w, ew, rw'⟩ := r.get h2
  have hl := r.length
  have hn := line63
  have fin : EP X pins σ Q w s := ⟨z, H, I, rw', q⟩
  by_cases h0 : 0 ≤ i
  · have hj : i.toNat = j := by
      rw [seqIndex_of h0 h5] at h1
      exact Option.some.inj h1
    exact wpAny_getItem_list pl.isList h0 (by omega) (by rw [hj]; simpa using ew) fin
  · have hj : (i + (its.toArray.size : Int)).toNat = j := by
      rw [seqIndex_neg (by omega) h4] at h1
      rw [List.size_toArray, ← hl]
      exact Option.some.inj h1
    exact wpAny_getItem_list_neg pl.isList (by omega) (by rw [List.size_toArray] <;> omega) (by omega) (by rw [hj]; simpa using ew) fin
/-- xs[j] op= m -/
def sLAug (g : D → D → Rs Ce) (i : Nat) (mj m : M D) : En → Out := fun e => match e[i]? with
  | some (some (.l _ _)) => onR (mj e) fun k e1 => (match e1[i]?, k with
    | some (some (.l _ ds)), .int j => (match atI ds j with
      | some dx => onR (m e1) fun dy e2 => (match g dx dy, e2[i]? with
        | .ok (.f dz), some (some (.l p ds')) => (match ixN ds'.length j with
          | some jj => .nx (e2.set i (some (.l p (ds'.set jj dz))))
          | none => .no)
        | _, _ => .no)
      | none => .no)
    | _, _ => .no)
  | _ => .no
@[simp] theorem sLAug_r (g : D → D → Rs Ce) (i : Nat) (mj m : M D) (e : En) : sLAug g i mj m e = match e[i]? with
  | some (some (.l _ _)) => onR (mj e) fun k e1 => (match e1[i]?, k with
    | some (some (.l _ ds)), .int j => (match atI ds j with
      | some dx => onR (m e1) fun dy e2 => (match g dx dy, e2[i]? with
        | .ok (.f dz), some (some (.l p ds')) => (match ixN ds'.length j with
          | some jj => .nx (e2.set i (some (.l p (ds'.set jj dz))))
          | none => .no)
        | _, _ => .no)
      | none => .no)
    | _, _ => .no)
  | _ => .no := Eq.trans rfl rfl
theorem atI_dn {F : Hp} {xs : List V} {ds : List D} {j : Int} {d : D} (h : DnA K F xs ds) (hj : atI ds j = some d) : ∃ v, atI xs j = some v ∧ Dn K F v d := by
  unfold atI at *
  rw [← h.len] at hj
  obtain ⟨k, h1, h2⟩ := Option.bind_eq_some_iff.mp hj
  obtain ⟨v, h3, h4⟩ := h.get h2
  exact ⟨v, by rw [h1]; exact h3, h4⟩
theorem pds_augS {i : Nat} {op : Operator} {r : R2} {g : D → D → Rs Ce} {mj m : M D} {tpos : Pos} (ho : PE X ex (tVar i)) (hi : PF X ey mj) (he : PF X ez m) (hop : OpR X (inplaceOp op) r) (hsnd : Snd2 X.K r g)
    (ha : ∀ ov iv new, augStore ey ov iv new = (do holding [new, ov, iv] (setItem ov iv new); release [new, ov, iv] []; pure .next) := by intros; rfl) :
    PDS X (.AugAssign (.Subscript ex ey tpos) op ez pos) (sLAug g i mj m) := PSimp (ps_augS ho hi get_list he hop set_list ha) fun E σ H ⟨G, F, e, rr, hp⟩ => by
  unfold sLAug at hp
  split at hp
  · rename_i p00 ds00 q0
    obtain ⟨k, e1, h1, hp⟩ := onR_inv hp
    split at hp
    · rename_i p0 ds j q1
      split at hp
      · rename_i dx q2
        obtain ⟨dy, e2, h2, hp⟩ := onR_inv hp
        split at hp
        · rename_i dz p ds' q3 q4
          split at hp
          · rename_i jj q5
            obtain ⟨a, xs0, s0, _⟩ := lst_at q0 rr rfl
            refine ⟨.ref a, s0, G, F, e, .int j, e1, rr, h1, fun y F1 H1 n1 hdk => ?_⟩
            obtain ⟨a1, xs1, s1, _, y2, y4⟩ := lst_at q1 n1.r rfl
            rw [s0] at s1
            cases s1
            obtain ⟨vx, g1, g2⟩ := atI_dn y4 q2
            refine ⟨a, xs1, j, vx, rfl, hdk.int_inv, SqL.of y2, g1, G, F1, e1, dy, e2, n1.r, h2, fun vy F2 H2 n2 hdy => ?_⟩
            refine hsnd F2 H2 vx vy dx dy _ _ n2.r.fh (.inl (n2.dn g2)) (.inl hdy) q3 fun z F3 H3 go nat => ?_
            have n3 := n2.r.step go
            obtain ⟨a2, xs2, s2, _, w2, w4⟩ := lst_at q4 n3.r rfl
            rw [s0] at s2
            cases s2
            refine ⟨a, xs2, j, jj, rfl, hdk.int_inv, w2, by rw [w4.len]; exact q5, ?_⟩
            have n4 := n3.r.wr (c' := .l p (ds'.set jj dz)) q4 s0 rfl (by cases p <;> rfl) (o' := .lst (xs2.set jj z)) (xs' := xs2.set jj z) rfl (w4.set jj nat.fz)
            exact hp F3 _ σ n4.r (((n1.go.ff.trans n2.go.ff)).trans go.ff)
          · exact hp.elim
        · exact hp.elim
      · exact hp.elim
    · exact hp.elim
  · exact hp.elim
end
end DL

namespace DL
open PySem L2 PyProof.Rows RT RZ
/-! ### sum, min, max, all, any -/
def intsOf : List D → Option (List Int)
  | [] => some []
  | .int i :: ds => (intsOf ds).map fun is => i :: is
  | _ :: _ => none
theorem intsOf_eq : ∀ {ds : List D} {is : List Int}, intsOf ds = some is → ds = is.map .int
  | [], is, h => by cases h; rfl
  | d :: ds, is, h => by
    cases d <;> first
      | (cases h; done)
      | skip
    obtain ⟨js, h1, rfl⟩ := Option.map_eq_some_iff.mp h
    rw [intsOf_eq h1]
    rfl
@[simp] theorem intsOf_ints (is : List Int) : intsOf (is.map .int) = some is := by
  induction is with
  | nil => rfl
  | cons i is ih => show (intsOf (is.map .int)).map _ = _; rw [ih]; rfl
def boolsOf : List D → Option (List Bool)
  | [] => some []
  | .bool i :: ds => (boolsOf ds).map fun is => i :: is
  | _ :: _ => none
theorem boolsOf_eq : ∀ {ds : List D} {is : List Bool}, boolsOf ds = some is → ds = is.map .bool
  | [], is, h => by cases h; rfl
  | d :: ds, is, h => by
    cases d <;> first
      | (cases h; done)
      | skip
    obtain ⟨js, h1, rfl⟩ := Option.map_eq_some_iff.mp h
    rw [boolsOf_eq h1]
    rfl
@[simp] theorem boolsOf_bools (is : List Bool) : boolsOf (is.map .bool) = some is := by
  induction is with
  | nil => rfl
  | cons i is ih => show (boolsOf (is.map .bool)).map _ = _; rw [ih]; rfl
def rSumT (K : PySem.W.Frag) : List V → Hp → VK → Prop := fun vs H Q => ∃ (a : Addr) (ns : List Int), vs = [V.ref a] ∧ SqT K H a (ns.map V.int) ∧ Q (.int ns.sum) H
theorem cr_sumT {X : Cx} (hc : X.calm = true) : CallR X (.builtin "sum") (rSumT X.K) := by
  intro pins s σ H vs us Q I r h
  obtain ⟨a, ns, rfl, hs, q⟩ := h
  obtain ⟨its, rv, hl, _⟩ := I.tuple hs
  rw [Vals.ref1 r]
  obtain ⟨xs, hx⟩ := rv.ints.allInts.items
  have hn : numsOf its.toArray.toList = ns := by rw [show its.toArray.toList = its from rfl, rv.ints.numsOf]
  rw [hx] at hl hn
  rw [nums_intItems] at hn
  refine PySem.W.ktm_sumG (I.ok.hd hc) hl fun h' tk t' hk => ?_
  rw [preSum_eq, List.take_of_length_le (by simp), hn]
  exact ⟨.int _, H, I.kept hk, ⟨_, rfl⟩, q⟩
def rSumA (K : PySem.W.Frag) : List V → Hp → VK → Prop := fun vs H Q => rSum K vs H Q ∨ rSumT K vs H Q
theorem call_sumA {X : Cx} (hc : X.calm = true) : CallR X (.builtin "sum") (rSumA X.K) := (cr_sum hc).or (cr_sumT hc)
section
variable {K : PySem.W.Frag}
/-- the ints of what is a list or a tuple of ints -/
def seqInts : D → Option (List Int)
  | .list ds => intsOf ds
  | .ro ds => intsOf ds
  | .tuple ds => intsOf ds
  | _ => none
def sumD : List D → Rs Ce
  | [d] => (match seqInts d with
    | some is => .ok (.f (.int is.sum))
    | none => .no)
  | _ => .no
theorem vw_ints {F H : Hp} {x : V} {d : D} {is : List Int} (fh : Ex F H) (h : Vw K F H d x) (hi : seqInts d = some is) : ∃ a, x = .ref a ∧ (SqL K H a (is.map .int) ∨ (SqT K H a (is.map .int) ∧ ∃ ds, d = .tuple ds)) := by
  cases d <;> first
    | (cases hi; done)
    | skip
  · have := intsOf_eq hi
    subst this
    obtain ⟨a, xs, rfl, h3, h4⟩ := h.list fh
    rw [h4.ints] at h3
    exact ⟨a, rfl, .inl (SqL.of h3)⟩
  · have := intsOf_eq hi
    subst this
    obtain ⟨a, xs, rfl, h3, h4, _⟩ := h.tuple fh
    rw [h4.ints] at h3
    exact ⟨a, rfl, .inr ⟨h3, _, rfl⟩⟩
  · have := intsOf_eq hi
    subst this
    obtain ⟨a, xs, rfl, h3, h4⟩ := h.ro fh
    rw [h4.ints] at h3
    exact ⟨a, rfl, .inl h3⟩
theorem snd_sum : SndL K (rSumA K) sumD := fun F H xs ds c Q fh hx hg q => by
  unfold sumD at hg
  split at hg
  · rename_i d
    split at hg
    · rename_i is hi
      cases hg
      obtain ⟨x, rfl, h⟩ := hx.one (ds := [])
      obtain ⟨a, rfl, h3 | ⟨h3, _⟩⟩ := vw_ints fh h hi
      · exact .inl ⟨a, is, rfl, h3, ret1 fh (.int _) rfl q⟩
      · exact .inr ⟨a, is, rfl, h3, ret1 fh (.int _) rfl q⟩
    · cases hg
  · cases hg
def maxL : List Int → Int
  | [] => 0
  | [i] => i
  | i :: j :: is => let m := maxL (j :: is); if i < m then m else i
def minL : List Int → Int
  | [] => 0
  | [i] => i
  | i :: j :: is => let m := minL (j :: is); if m < i then m else i
theorem maxL_mem : ∀ {l : List Int}, l ≠ [] → maxL l ∈ l ∧ ∀ y ∈ l, y ≤ maxL l
  | [i], _ => ⟨List.mem_cons_self, fun y hy => by rw [List.mem_singleton.mp hy]; exact Int.le_refl _⟩
  | i :: j :: is, _ => by
    obtain ⟨h1, h2⟩ := maxL_mem (l := j :: is) (List.cons_ne_nil _ _)
    show (if i < maxL (j :: is) then maxL (j :: is) else i) ∈ _ ∧ ∀ y ∈ _, y ≤ if i < maxL (j :: is) then maxL (j :: is) else i
    split
    · refine ⟨List.mem_cons_of_mem _ h1, fun y hy => ?_⟩
      rcases List.mem_cons.mp hy with rfl | hy
      · omega
      · exact h2 y hy
    · refine ⟨List.mem_cons_self, fun y hy => ?_⟩
      rcases List.mem_cons.mp hy with rfl | hy
      · omega
      · have := h2 y hy
        omega
theorem minL_mem : ∀ {l : List Int}, l ≠ [] → minL l ∈ l ∧ ∀ y ∈ l, minL l ≤ y
  | [i], _ => ⟨List.mem_cons_self, fun y hy => by rw [List.mem_singleton.mp hy]; exact Int.le_refl _⟩
  | i :: j :: is, _ => by
    obtain ⟨h1, h2⟩ := minL_mem (l := j :: is) (List.cons_ne_nil _ _)
    show (if minL (j :: is) < i then minL (j :: is) else i) ∈ _ ∧ ∀ y ∈ _, (if minL (j :: is) < i then minL (j :: is) else i) ≤ y
    split
    · refine ⟨List.mem_cons_of_mem _ h1, fun y hy => ?_⟩
      rcases List.mem_cons.mp hy with rfl | hy
      · omega
      · exact h2 y hy
    · refine ⟨List.mem_cons_self, fun y hy => ?_⟩
      rcases List.mem_cons.mp hy with rfl | hy
      · omega
      · have := h2 y hy
        omega
theorem maxL_uniq {l : List Int} {m : Int} (h1 : m ∈ l) (h2 : ∀ y ∈ l, y ≤ m) : maxL l = m := by
  obtain ⟨h3, h4⟩ := maxL_mem (List.ne_nil_of_mem h1)
  have := h2 _ h3
  have := h4 _ h1
  omega
theorem minL_uniq {l : List Int} {m : Int} (h1 : m ∈ l) (h2 : ∀ y ∈ l, m ≤ y) : minL l = m := by
  obtain ⟨h3, h4⟩ := minL_mem (List.ne_nil_of_mem h1)
  have := h2 _ h3
  have := h4 _ h1
  omega
/-- of a list of ints, or of two ints -/
def maxD : List D → Rs Ce
  | [.list ds] => (match intsOf ds with
    | some (i :: is) => .ok (.f (.int (maxL (i :: is))))
    | _ => .no)
  | [.int i, .int j] => .ok (.f (.int (if j > i then j else i)))
  | _ => .no
def minD : List D → Rs Ce
  | [.list ds] => (match intsOf ds with
    | some (i :: is) => .ok (.f (.int (minL (i :: is))))
    | _ => .no)
  | [.int i, .int j] => .ok (.f (.int (if j < i then j else i)))
  | _ => .no
def rMaxA (K : PySem.W.Frag) : List V → Hp → VK → Prop := fun xs H Q => rMax K xs H Q ∨ ∃ i j, xs = [.int i, .int j] ∧ Q (.int (if j > i then j else i)) H
def rMinA (K : PySem.W.Frag) : List V → Hp → VK → Prop := fun xs H Q => rMin K xs H Q ∨ ∃ i j, xs = [.int i, .int j] ∧ Q (.int (if j < i then j else i)) H
theorem call_maxA {X : Cx} (hc : X.calm = true) : CallR X (.builtin "max") (rMaxA X.K) := (cr_max hc).or (call_max2 hc)
theorem call_minA {X : Cx} (hc : X.calm = true) : CallR X (.builtin "min") (rMinA X.K) := (cr_min hc).or (call_min2 hc)
theorem snd_max : SndL K (rMaxA K) maxD := fun F H xs ds c Q fh hx hg q => by
  unfold maxD at hg
  split at hg
  · rename_i ds
    split at hg
    · rename_i i is hi
      cases hg
      obtain ⟨x, rfl, h⟩ := hx.one (ds := [])
      obtain ⟨a, rfl, h3 | ⟨h3, ds', e⟩⟩ := vw_ints fh h (is := i :: is) hi
      · exact .inl ⟨a, i :: is, rfl, h3, by simp, fun m h4 h5 => by rw [← maxL_uniq h4 h5]; exact ret1 fh (.int _) rfl q⟩
      · cases e
    · cases hg
  · cases hg
    obtain ⟨x, y, rfl, h1, h2⟩ := hx.two
    rw [h1.int, h2.int]
    exact .inr ⟨_, _, rfl, ret1 fh (.int _) rfl q⟩
  · cases hg
theorem snd_min : SndL K (rMinA K) minD := fun F H xs ds c Q fh hx hg q => by
  unfold minD at hg
  split at hg
  · rename_i ds
    split at hg
    · rename_i i is hi
      cases hg
      obtain ⟨x, rfl, h⟩ := hx.one (ds := [])
      obtain ⟨a, rfl, h3 | ⟨h3, ds', e⟩⟩ := vw_ints fh h (is := i :: is) hi
      · exact .inl ⟨a, i :: is, rfl, h3, by simp, fun m h4 h5 => by rw [← minL_uniq h4 h5]; exact ret1 fh (.int _) rfl q⟩
      · cases e
    · cases hg
  · cases hg
    obtain ⟨x, y, rfl, h1, h2⟩ := hx.two
    rw [h1.int, h2.int]
    exact .inr ⟨_, _, rfl, ret1 fh (.int _) rfl q⟩
  · cases hg
def allD : List D → Rs Ce
  | [.list ds] => (match boolsOf ds with
    | some bs => .ok (.f (.bool (bs.all id)))
    | none => .no)
  | _ => .no
def anyD : List D → Rs Ce
  | [.list ds] => (match boolsOf ds with
    | some bs => .ok (.f (.bool (bs.any id)))
    | none => .no)
  | _ => .no
theorem snd_all : SndL K (rAll K) allD := fun F H xs ds c Q fh hx hg q => by
  unfold allD at hg
  split at hg
  · rename_i ds
    split at hg
    · rename_i bs hi
      cases hg
      have := boolsOf_eq hi
      subst this
      obtain ⟨x, rfl, h⟩ := hx.one (ds := [])
      obtain ⟨a, xs, rfl, h3, h4⟩ := h.list fh
      rw [DnA.bools h4] at h3
      exact ⟨a, bs, rfl, SqL.of h3, ret1 fh (.bl _) rfl q⟩
    · cases hg
  · cases hg
theorem snd_any : SndL K (rAny K) anyD := fun F H xs ds c Q fh hx hg q => by
  unfold anyD at hg
  split at hg
  · rename_i ds
    split at hg
    · rename_i bs hi
      cases hg
      have := boolsOf_eq hi
      subst this
      obtain ⟨x, rfl, h⟩ := hx.one (ds := [])
      obtain ⟨a, xs, rfl, h3, h4⟩ := h.list fh
      rw [DnA.bools h4] at h3
      exact ⟨a, bs, rfl, SqL.of h3, ret1 fh (.bl _) rfl q⟩
    · cases hg
  · cases hg
end
@[simp] theorem sumD_l (is : List Int) : sumD [.list (is.map .int)] = .ok (.f (.int is.sum)) := by simp [sumD, seqInts]
@[simp] theorem sumD_t (is : List Int) : sumD [.tuple (is.map .int)] = .ok (.f (.int is.sum)) := by simp [sumD, seqInts]
theorem maxD_l {is : List Int} (h : is ≠ []) : maxD [.list (is.map .int)] = .ok (.f (.int (maxL is))) := by
  cases is with
  | nil => exact absurd rfl h
  | cons i is =>
    have : intsOf ((i :: is).map D.int) = some (i :: is) := intsOf_ints _
    simp only [maxD, this]
theorem minD_l {is : List Int} (h : is ≠ []) : minD [.list (is.map .int)] = .ok (.f (.int (minL is))) := by
  cases is with
  | nil => exact absurd rfl h
  | cons i is =>
    have : intsOf ((i :: is).map D.int) = some (i :: is) := intsOf_ints _
    simp only [minD, this]
@[simp] theorem maxD_2 (i j : Int) : maxD [.int i, .int j] = .ok (.f (.int (if j > i then j else i))) := rfl
@[simp] theorem minD_2 (i j : Int) : minD [.int i, .int j] = .ok (.f (.int (if j < i then j else i))) := rfl
@[simp] theorem allD_l (bs : List Bool) : allD [.list (bs.map .bool)] = .ok (.f (.bool (bs.all id))) := by simp [allD]
@[simp] theorem anyD_l (bs : List Bool) : anyD [.list (bs.map .bool)] = .ok (.f (.bool (bs.any id))) := by simp [anyD]
end DL

namespace DL
open PySem L2 PyProof.Rows RT RZ
/-! ### a list taken apart -/
def tgL (ts : List Tg) : Tg := fun d e => match d with
  | .list ds => tgAll ts ds e
  | .ro ds => tgAll ts ds e
  | _ => .no
@[simp] theorem tgL_l (ts : List Tg) (ds : List D) (e : En) : tgL ts (.list ds) e = tgAll ts ds e := rfl
@[simp] theorem tgL_r (ts : List Tg) (ds : List D) (e : En) : tgL ts (.ro ds) e = tgAll ts ds e := Eq.trans rfl rfl
section
variable {X : Cx} {pos : Pos}
theorem pgd_lst {tgs : List Expr} {ts : List Tg} {is : List Nat} {k n : Nat} (hc : X.calm = true) (h : PGds X tgs ts is) (hl : ts.length = n) (hn : (assignEach tgs X.env).length = n := by rfl) (hst : (assignEach tgs X.env).findIdx? (·.1) = none := by rfl) : PGd X (.Tuple tgs k pos) (tgL ts) is :=
  PGimp (pg_unl hc h hn hst) fun v σ H Q ⟨G, F, e, d, e', r, hd, ht, q⟩ => by
    have key : ∀ (ts : List Tg) (ds : List D) (e : En), tgAll ts ds e = .ok e' → ts.length = ds.length := by
      intro ts
      induction ts with
      | nil => intro ds e h; cases ds with
        | nil => rfl
        | cons d ds => cases h
      | cons t ts ih => intro ds e h; cases ds with
        | nil => cases h
        | cons d ds =>
          obtain ⟨e1, _, h4⟩ := Rs.bind_eq h
          rw [List.length_cons, List.length_cons, ih ds e1 h4]
    unfold tgL at ht
    split at ht
    · rename_i ds
      obtain ⟨a, xs, rfl, h1, h2⟩ := Dn.sq (.inl hd)
      exact ⟨a, xs, rfl, Evl.ex_l r.fh h1, by rw [h2.len, ← key ts ds e ht, hl], G, F, e, ds, e', r, h2, ht, q⟩
    · rename_i ds
      obtain ⟨a, xs, rfl, h1, h2⟩ := Dn.sq (.inr hd)
      exact ⟨a, xs, rfl, Evl.ex_l r.fh h1, by rw [h2.len, ← key ts ds e ht, hl], G, F, e, ds, e', r, h2, ht, q⟩
    · cases ht
end
end DL

namespace DL
open PySem L2 PyProof.Rows RT RZ
/-! ### xs.index(i) -/
def indexD : D → D → Rs Ce
  | .list ds, .int i => (match intsOf ds with
    | some is => (match is.findIdx? (· == i) with
      | some k => .ok (.f (.int (k : Int)))
      | none => .no)
    | none => .no)
  | _, _ => .no
def mIndex (ma mb : M D) : M Ce := fun e => (ma e).bind fun p => if isT "list" p.1 = true then (mb p.2).bind fun q => (indexD p.1 q.1).bind fun c => .ok (c, q.2) else .no
@[simp] theorem mIndex_r (ma mb : M D) (e : En) : mIndex ma mb e = (ma e).bind fun p => if isT "list" p.1 = true then (mb p.2).bind fun q => (indexD p.1 q.1).bind fun c => .ok (c, q.2) else .no := Eq.trans rfl rfl
theorem indexD_l {is : List Int} {i : Int} {k : Nat} (h : is.findIdx? (· == i) = some k) : indexD (.list (is.map .int)) (.int i) = .ok (.f (.int (k : Int))) := by
  simp only [indexD, intsOf_ints, h]
theorem indexD_inv {d i : D} {c : Ce} (h : indexD d i = .ok c) : ∃ (is : List Int) (j : Int) (k : Nat), d = .list (is.map .int) ∧ i = .int j ∧ is.findIdx? (· == j) = some k ∧ c = .f (.int (k : Int)) := by
  cases d <;> first
    | (cases h; done)
    | skip
  cases i <;> first
    | (cases h; done)
    | skip
  rename_i ds j
  cases hi : intsOf ds with
  | none => simp [indexD, hi] at h
  | some is =>
    cases hk : is.findIdx? (· == j) with
    | none => simp [indexD, hi, hk] at h
    | some k =>
      simp [indexD, hi, hk] at h
      exact ⟨is, j, k, by rw [intsOf_eq hi], rfl, hk, h.symm⟩
section
variable {X : Cx} {pos : Pos} {ex : Expr}
theorem pn_index {apos : Pos} {eo : Expr} {ma mb : M D} (ho : PF X eo ma) (he : PF X ex mb) (hbase : attributeBase eo "index" X.env (eval eo X.env) = eval eo X.env := by rfl)
    (hfew : ((backTo pos (starEach [ex] X.env)).all (fun y => !y.1) && (backToKw pos (keywordEach [] X.env)).all (fun y => y.1.isSome) && decide ([ex].length + ([] : List Keyword).length + (if ([] : List Keyword).isEmpty then 0 else 1) < 30)) = true := by rfl)
    (hline : (apos.endLine == pos.line) = true := by rfl) (hs : starEach [ex] X.env = (false, eval ex X.env) :: starEach [] X.env := by rfl) (hpl : (backTo pos (starEach [] X.env)).any (fun y => y.1) = false := by rfl) :
    PN X (.Call (.Attribute eo "index" apos) [ex] [] pos) (mIndex ma mb) :=
  PEimp (pe_bm PySem.F.plainAttrs_list PySem.F.slot_list_index PySem.F.type_list_index mt_index ho (pa_cons he pa_nil hs) hbase hfew hline hs hpl) fun σ H Q ⟨G, F, e, c, e', r, hm, q⟩ => by
  obtain ⟨d, e1, h1, hm⟩ := bind_ok2 hm
  obtain ⟨hx, hm⟩ := ite_ok hm
  obtain ⟨i, e2, h2, hm⟩ := bind_ok2 hm
  obtain ⟨c', h3, hm⟩ := Rs.bind_eq hm
  cases hm
  obtain ⟨is, i, k, rfl, rfl, hk, rfl⟩ := indexD_inv h3
  refine ⟨G, F, e, _, e1, r, h1, fun v F1 H1 n1 hv => ?_⟩
  obtain ⟨a, xs, rfl, g1, g2⟩ := Dn.sq (.inl hv)
  cases g2.ints
  refine ⟨.inl ⟨rfl, _, Evl.ex_l n1.r.fh g1⟩, G, F1, e1, _, _, n1.r, h2, fun w F2 H2 n2 hw => ?_⟩
  cases hw.int_inv
  obtain ⟨kl, k1, k2⟩ := List.findIdx?_eq_some_iff_getElem.mp hk
  have fl : (is.map V.int).all flatV = true := List.all_eq_true.mpr fun v hv => by
    obtain ⟨j, _, rfl⟩ := List.mem_map.mp hv
    rfl
  refine ⟨a, is.map .int, .int i, k, .int is[k], rfl, rfl, Evl.ex_l (n2.go.ff.trans n2.r.fh) g1, rfl, fl, by rw [List.getElem?_map, List.getElem?_eq_getElem kl]; rfl, k1, fun m z' hm hz => ?_, q _ F2 H2 (n1.trans n2) (.inl ⟨_, rfl, .int _⟩)⟩
  have hml : m < is.length := by omega
  rw [List.getElem?_map, List.getElem?_eq_getElem hml] at hz
  cases hz
  have := k2 m hm
  exact eq_false_of_ne_true this
end
/-! ### a tuple some times -/
def rRep2 (K : PySem.W.Frag) : R2 := fun x y H Q => ∃ a k xs, x = .ref a ∧ y = .int k ∧ SqT K H a xs ∧ 0 < xs.length ∧ xs.length ≤ 100 ∧ 2 ≤ k ∧ k ≤ 9000 ∧ ∀ p its, H p = none → Q (.ref p) (upd H p (.frz (gO its) (.tup (List.replicate k.toNat xs).flatten)))
section
variable {X : Cx}
theorem op_rep2 : OpR X (binaryOp .Mult) (rRep2 X.K) := by
  intro ps st σ H x y vx vy Q I rx ry ⟨a, k, xs, ex, ey, hT, hp, hm, k2, k9, go⟩
  subst ex ey
  cases rx
  obtain ⟨tk, rfl⟩ := ry
  obtain ⟨its, rel, ⟨⟨cl, dd, dt, sls⟩, hob, hcl, n, hdt⟩, _⟩ := I.tuple hT
  simp only at hcl hdt
  subst hcl hdt
  have hlen : its.length = xs.length := rel.length.symm
  have hsz : its.toArray.size = xs.length := by rw [List.size_toArray, hlen]
  have hemp : its.toArray.isEmpty = false := by
    rcases its with _ | ⟨i0, i1⟩
    · exact absurd hlen (by simp; omega)
    · rfl
  have hprod : ((its.toArray.size : Nat) : Int) * k ≤ 900000 := by
    have h := Int.mul_le_mul_of_nonneg_right (a := (xs.length : Int)) (b := 100) (c := k) (by omega) (by omega)
    rw [hsz]
    omega
  have hflat : (List.replicate k.toNat its).flatten.length ≤ sizeLine := by
    have h := Nat.mul_le_mul (show k.toNat ≤ 9000 by omega) hm
    rw [PyProof.Rows.lm_len_rep_flat, hlen, sizeLine_eq]
    omega
  have fit : (decide (k < -(2 ^ 63)) || decide (k ≥ 2 ^ 63)) = false := by simp; omega
  have one : (its.toArray.isEmpty || k == 1) = false := by rw [hemp]; simp; omega
  have pos : (decide (k ≤ 0) || its.toArray.isEmpty) = false := by rw [hemp]; simp; omega
  have many : Builtin.Tuple.tupleTooMany (((its.toArray.size : Nat) : Int) * k) = false := by
    unfold Builtin.Tuple.tupleTooMany
    simp only [sizeLine_eq, decide_eq_false_iff_not]
    omega
  have meets := tuple_mulW a its.toArray n dd sls k tk fit one pos (by omega) many (by rw [size_rep, List.size_toArray]; exact hflat)
  have hty := fun (z : Shared) => typeIs_int z k tk
  refine wpAny_binaryOp_repeat_ref (T := "tuple") (U := "int") (by decide) ⟨_, hob, rfl⟩ hty noFill_tuple_mul F.fills_int_mul F.slot_int_rmul repeat_tuple F.slot_int_index.lookup ?_
  refine call_meets F.slot_int_rmul (hty st) F.entry_int_rmul (F.args_int_rmul_2 _ _) (int_rmul_tuple k tk a its.toArray n dd sls) ⟨hob, rfl, ⟨_, hob, rfl⟩, ?_⟩
  refine call_meets F.slot_tuple_mul ⟨_, hob, rfl⟩ F.entry_tuple_mul (F.args_tuple_mul_2 _ _) meets ⟨hob, ?_⟩
  rw [size_rep]
  refine ⟨.ref st.heap.objs.size, _, laidG I (rel.rep k.toNat) ?_ st.toks, rfl, go _ _ (I.hok.fresh (Nat.le_refl _))⟩
  have h := Nat.mul_le_mul (show k.toNat ≤ 9000 by omega) hm
  rw [PyProof.Rows.lm_len_rep_flat, sizeLine_eq]
  omega
end
def repD : D → D → Rs Ce
  | .tuple ds, .int k => if 0 < ds.length ∧ ds.length ≤ 100 ∧ 2 ≤ k ∧ k ≤ 9000 then .ok (.f (.tuple (List.replicate k.toNat ds).flatten)) else .no
  | _, _ => .no
theorem snd_rep {K : PySem.W.Frag} : Snd2 K (rRep2 K) repD := fun F H x y dx dy c Q fh hx hy hg q => by
  unfold repD at hg
  split at hg
  · rename_i ds k
    obtain ⟨⟨h1, h2, h3, h4⟩, hg⟩ := ite_ok hg
    cases hg
    rw [hy.int]
    obtain ⟨a, xs, rfl, g1, g2, g3⟩ := hx.tuple fh
    refine ⟨a, k, xs, rfl, rfl, g1, by rw [g2.len]; exact h1, by rw [g2.len]; exact h2, h3, h4, fun p its hp => ?_⟩
    have go : Go F H (upd F p (.frz (gO its) (.tup (List.replicate k.toNat xs).flatten))) (upd H p (.frz (gO its) (.tup (List.replicate k.toNat xs).flatten))) noA := Go.newF fh hp
    exact q _ _ _ go (.inl ⟨_, rfl, .tup (.inl upd_same) ((DnA.rep g2 _).mono go.ff)⟩)
  · cases hg
/-! ### xs[i], xs[j] = a, b -/
def putK (i : Nat) (mj : M D) (v : D) (k : En → Out) : En → Out := fun e1 => match e1[i]? with
  | some (some (.l _ _)) => onR (mj e1) fun kx e2 => (match e2[i]?, kx with
    | some (some (.l p ds)), .int j => (match ixN ds.length j with
      | some jj => k (e2.set i (some (.l p (ds.set jj v))))
      | none => .no)
    | _, _ => .no)
  | _ => .no
def sPut2 (i : Nat) (mj mk m : M D) : En → Out := fun e => onR (m e) fun d e1 => match d with
  | .tuple [a, b] => putK i mj a (putK i mk b .nx) e1
  | _ => .no
section
variable {K : PySem.W.Frag} {G : Bs} {F F1 H1 : Hp} {σ : L2.St} {e1 : En} {i : Nat} {E : Ends}
theorem put_ok {mj : M D} {k : En → Out} {v : V} {dv : D} {Q : L2.St → Hp → Prop} (r : R K G F1 H1 σ e1) (hd : Dn K F1 v dv) (hp : Post K G F E (putK i mj dv k e1)) (ct : ∀ F2 H2 e2, Nx K G σ F1 H1 e1 F2 H2 e2 → Post K G F E (k e2) → Q σ H2) : gSub (tVar i) (tF K mj) rSetL v σ H1 Q := by
  unfold putK at hp
  split at hp
  · rename_i p0 ds0 g0
    obtain ⟨dk, e2, h2, hp⟩ := onR_inv hp
    obtain ⟨a, xs0, s0, _⟩ := lst_at g0 r rfl
    refine ⟨.ref a, s0, G, F1, e1, dk, e2, r, h2, fun y F2 H2 n2 hdk => ?_⟩
    split at hp
    · rename_i p ds j g2
      split at hp
      · rename_i jj hj
        obtain ⟨a', xs, s1, y1, y2, y4⟩ := lst_at g2 n2.r rfl
        rw [s0] at s1
        cases s1
        refine ⟨a, xs, j, jj, rfl, hdk.int_inv, y2, by rw [y4.len]; exact hj, ?_⟩
        have n3 := n2.r.wr (c' := .l p (ds.set jj dv)) g2 s0 rfl (by cases p <;> rfl) (o' := .lst (xs.set jj v)) (xs' := xs.set jj v) rfl (y4.set jj (n2.dn hd))
        exact ct F2 _ _ (n2.trans n3) hp
      · exact hp.elim
    · exact hp.elim
  · exact hp.elim
end
section
variable {X : Cx} {pos p1 p2 p3 p4 : Pos} {o1 o2 i1 i2 ez : Expr} {i kk : Nat}
theorem pds_put2 {mj mk m : M D} (hc : X.calm = true) (ho : PE X o1 (tVar i)) (hi : PF X i1 mj) (ho2 : PE X o2 (tVar i)) (hi2 : PF X i2 mk) (hv : PF X ez m)
    (hn : (assignEach [.Subscript o1 i1 p1, .Subscript o2 i2 p2] X.env).length = 2 := by rfl) (hst : (assignEach [.Subscript o1 i1 p1, .Subscript o2 i2 p2] X.env).findIdx? (fun z => z.1) = none := by rfl)
    (hs1 : (assignEach [.Subscript o1 i1 p1, .Subscript o2 i2 p2] X.env).map (fun z => z.2) = assign (.Subscript o1 i1 p1) X.env :: (assignEach [.Subscript o2 i2 p2] X.env).map (fun z => z.2) := by rfl)
    (hs2 : (assignEach [.Subscript o2 i2 p2] X.env).map (fun z => z.2) = assign (.Subscript o2 i2 p2) X.env :: (assignEach [] X.env).map (fun z => z.2) := by rfl)
    (hs : swapsWithSole [.Tuple [.Subscript o1 i1 p1, .Subscript o2 i2 p2] kk p3] ez pos.line X.env = pure false := by rfl) (hw : swappedStores [.Tuple [.Subscript o1 i1 p1, .Subscript o2 i2 p2] kk p3] ez X.env = pure none := by rfl)
    (h1 : (assignEach [.Tuple [.Subscript o1 i1 p1, .Subscript o2 i2 p2] kk p3] X.env).map (fun z => z.2) = [assign (.Tuple [.Subscript o1 i1 p1, .Subscript o2 i2 p2] kk p3) X.env] := by rfl)
    (ha : ∀ v, assign (.Subscript o1 i1 p1) X.env v = (do
      let ov ← holding [v] (eval o1 X.env)
      let iv ← holding [v, ov] (eval i1 X.env)
      standAt p1
      holding [v, ov, iv] (setItem ov iv v)
      release [v, ov, iv] []) := by intro _; rfl)
    (ha2 : ∀ v, assign (.Subscript o2 i2 p2) X.env v = (do
      let ov ← holding [v] (eval o2 X.env)
      let iv ← holding [v, ov] (eval i2 X.env)
      standAt p2
      holding [v, ov, iv] (setItem ov iv v)
      release [v, ov, iv] []) := by intro _; rfl) :
    PDS X (.Assign [.Tuple [.Subscript o1 i1 p1, .Subscript o2 i2 p2] kk p3] ez pos) (sPut2 i mj mk m) :=
  PSimp (ps_asg hv (pg_tup hc (pgs_cons (pg_sub ho hi set_list ha) (pgs_cons (pg_sub ho2 hi2 set_list ha2) pgs_nil hs2) hs1) hn hst) hs hw h1) fun E σ H ⟨G, F, e, r, hp⟩ => by
  obtain ⟨dv, e1, h1, hp⟩ := onR_inv hp
  refine ⟨G, F, e, dv, e1, r, h1, fun v F1 H1 n1 hdv => ?_⟩
  split at hp
  · rename_i a b
    obtain ⟨p, xs, rfl, g1, g2⟩ := hdv.tuple_inv
    cases g2 with
    | cons da t1 =>
      cases t1 with
      | cons db t2 =>
        cases t2
        refine ⟨p, _, rfl, Evl.ex_t n1.r.fh g1, rfl, _, _, rfl, put_ok n1.r da hp fun F2 H2 e2 n2 hp2 => ?_⟩
        refine ⟨_, _, rfl, put_ok n2.r (n2.dn db) hp2 fun F3 H3 e3 n3 hp3 => ⟨rfl, ?_⟩⟩
        exact hp3 F3 H3 σ n3.r (n1.go.ff.trans (n2.go.ff.trans n3.go.ff))
  · exact hp.elim
end
end DL

namespace DL
open PySem L2 PyProof.Rows RT RZ
/-! ### comprehensions over what is told by a list of one's own -/
theorem mComp_of {α : Type} {src : M (List D)} {t : Tg} {vs is : List Nat} {m : M D} {e : En} (xs : List α) (enc g : α → D) (hsrc : src e = .ok (xs.map enc, e)) (to : TgOk t is) (hs : ∀ i ∈ is, i ∈ vs) (hf : vs.all (frozenAt e) = true) (hz : xs.length < 16000000)
    (h : ∀ x ∈ xs, ∃ e1, t (enc x) (wipeE e vs) = .ok e1 ∧ m e1 = .ok (g x, e1)) : mComp src t vs mYes m e = .ok (.l false (xs.map g), e) := by
  obtain ⟨acc, e', h1, dn, rest, k1, k2, k3, k4, k5⟩ := cLoop_inv (t := t) (vs := vs) (c := mYes) (m := m) (fun ds acc e' => ∃ dn rest, xs = dn ++ rest ∧ ds = rest.map enc ∧ acc = dn.map g ∧ wipeE e' vs = wipeE e vs ∧ vs.all (frozenAt e') = true)
    (fun ds acc e' ⟨_, _, _, _, _, _, k⟩ => k) (fun d ds acc e' ⟨dn, rest, k1, k2, k3, k4, k5⟩ => by
      cases rest with
      | nil => cases k2
      | cons x rest =>
        obtain ⟨rfl, rfl⟩ := List.cons.inj k2
        obtain ⟨e1, q1, q2⟩ := h x (by rw [k1]; simp)
        refine ⟨e1, true, e1, by rw [k4]; exact q1, rfl, (fun z => by cases z), fun _ => ⟨g x, e1, q2, ?_, dn ++ [x], rest, by rw [k1]; simp, rfl, by rw [k3]; simp, wipeE_idem to hs q1, tg_fr to q1⟩⟩
        rw [k3, List.length_map]
        have := congrArg List.length k1
        rw [List.length_append] at this
        omega) (xs.map enc) [] e ⟨[], xs, rfl, rfl, rfl, rfl, hf⟩
  rw [mComp_r, hsrc]
  simp only [Rs.bind_ok, h1]
  rw [restE_same k4, k3]
  cases rest with
  | nil => rw [k1, List.append_nil]
  | cons a b => cases k2
theorem rg_enc (n : Nat) : rgD 0 n = (List.range n).map fun (i : Nat) => D.int (i : Int) := by
  rw [rgD_map]
  congr 1
  funext i
  rw [Int.zero_add]
theorem comp_rg {t : Tg} {vs is : List Nat} {m : M D} {e : En} {ma : M (List D)} {n : Nat} (g : Nat → D) (hsrc : ma e = .ok ([.int (n : Int)], e)) (to : TgOk t is) (hs : ∀ i ∈ is, i ∈ vs) (hf : vs.all (frozenAt e) = true) (hz : n < 16000000)
    (h : ∀ k, k < n → ∃ e1, t (.int (k : Int)) (wipeE e vs) = .ok e1 ∧ m e1 = .ok (g k, e1)) : mComp (mRng1 ma) t vs mYes m e = .ok (.l false ((List.range n).map g), e) := by
  refine mComp_of (List.range n) (fun i => .int (i : Int)) g ?_ to hs hf (by rw [List.length_range]; exact hz) fun x hx => h x (List.mem_range.mp hx)
  rw [rng1_r hsrc (by omega) (by omega), Int.toNat_natCast, rg_enc]
/-- a loop over a range of ints: one step, one number more -/
theorem loop_rg {b : En → Out} {i : Nat} (I : Nat → En → Prop) (n : Nat) : ∀ (m lo : Nat), lo + m = n → (∀ k e, lo ≤ k → k < n → I k e → ∃ e1 e2, tgN i (.int (k : Int)) e = .ok e1 ∧ b e1 = .nx e2 ∧ I (k + 1) e2) → ∀ e, I lo e → ∃ e', loopL (tgN i) b (rgD (lo : Int) m) e = .nx e' ∧ I n e'
  | 0, lo, h, _, e, he => ⟨e, rfl, by rw [← h]; exact he⟩
  | m + 1, lo, h, st, e, he => by
    obtain ⟨e1, e2, h1, h2, h3⟩ := st lo e (Nat.le_refl _) (by omega) he
    obtain ⟨e', g1, g2⟩ := loop_rg I n m (lo + 1) (by omega) (fun k e hk => st k e (by omega)) e2 h3
    exact ⟨e', (loop_nx h1 h2).trans g1, g2⟩
theorem for_rD {m : M (List D)} {t : Tg} {b : En → Out} {e e' : En} {ds : List D} (h : m e = .ok (ds, e')) : sFor m t b e = loopL t b ds e' := by
  rw [sFor_r, h]
  rfl
end DL
namespace DL
open PySem L2 PyProof.Rows RT RZ
/-- a loop over a range that tells at the first number of a kind -/
theorem loop_first {b : En → Out} {i n lo0 : Nat} {P : Nat → Bool} (I : En → Prop) (Rv : Nat → Ce) (step : ∀ k e, lo0 ≤ k → k < n → I e → ∃ e1, tgN i (.int (k : Int)) e = .ok e1 ∧ ((P k = false ∧ ∃ e2, b e1 = .nx e2 ∧ I e2) ∨ (P k = true ∧ ∃ e2, b e1 = .rt (Rv k) e2))) :
    ∀ (m lo : Nat), lo + m = n → lo0 ≤ lo → ∀ e, I e → (∃ e', loopL (tgN i) b (rgD (lo : Int) m) e = .nx e' ∧ I e' ∧ ∀ k, lo ≤ k → k < n → P k = false) ∨ ∃ k e', loopL (tgN i) b (rgD (lo : Int) m) e = .rt (Rv k) e' ∧ lo ≤ k ∧ k < n ∧ P k = true ∧ ∀ j, lo ≤ j → j < k → P j = false
  | 0, lo, h, _, e, he => .inl ⟨e, rfl, he, fun k h1 h2 => by omega⟩
  | m + 1, lo, h, hl, e, he => by
    obtain ⟨e1, h1, ⟨hp, e2, h2, h3⟩ | ⟨hp, e2, h2⟩⟩ := step lo e hl (by omega) he
    · rcases loop_first I Rv step m (lo + 1) (by omega) (by omega) e2 h3 with ⟨e', g1, g2, g3⟩ | ⟨k, e', g1, g2, g3, g4, g5⟩
      · refine .inl ⟨e', (loop_nx h1 h2).trans g1, g2, fun k k1 k2 => ?_⟩
        rcases Nat.eq_or_lt_of_le k1 with z | z
        · rw [← z]; exact hp
        · exact g3 k z k2
      · refine .inr ⟨k, e', (loop_nx h1 h2).trans g1, by omega, g3, g4, fun j j1 j2 => ?_⟩
        rcases Nat.eq_or_lt_of_le j1 with z | z
        · rw [← z]; exact hp
        · exact g5 j z j2
    · exact .inr ⟨lo, e2, loop_rt h1 h2, Nat.le_refl _, by omega, hp, fun j j1 j2 => by omega⟩
theorem ixD_end (p : List D) (d : D) : ixD (.list (p ++ [d])) (.int (-1)) = .ok (.f d) := by
  have e1 : ixN (p.length + 1) (-1) = some p.length := by
    unfold ixN
    rw [if_neg (by decide), if_pos (by omega)]
    congr 1
    omega
  have : atI (p ++ [d]) (-1) = some d := by simp [atI, e1]
  rw [ixD_l, this]
theorem rng2_i {ma : M (List D)} {e e' : En} {lo n : Int} (h : ma e = .ok ([.int lo, .int n], e')) (h1 : -(2 ^ 62) ≤ lo) (h2 : lo < 2 ^ 62) (h3 : -(2 ^ 62) ≤ n) (h4 : n < 2 ^ 62) : mRng2 ma e = .ok (rgD lo (n - lo).toNat, e') := by
  rw [mRng2_r, h]
  exact if_pos ⟨h1, h2, h3, h4⟩
theorem rng2_n {ma : M (List D)} {e e' : En} {lo n : Nat} (h : ma e = .ok ([.int (lo : Int), .int (n : Int)], e')) (h1 : lo < 100000) (h2 : n < 100000) : mRng2 ma e = .ok (rgD (lo : Int) (n - lo), e') := by
  rw [rng2_i h (by omega) (by omega) (by omega) (by omega), show ((n : Int) - (lo : Int)).toNat = n - lo by omega]
end DL

namespace DL
open PySem L2 PyProof.Rows RT RZ
/-! ### methods of a text alone -/
def mS0 (g : Str → Rs D) (ma : M D) : M Ce := fun e => (ma e).bind fun p => match p.1 with
  | .str s => (g s).bind fun d => .ok (.f d, p.2)
  | _ => .no
@[simp] theorem mS0_r (g : Str → Rs D) (ma : M D) (e : En) : mS0 g ma e = (ma e).bind fun p => match p.1 with
  | .str s => (g s).bind fun d => .ok (.f d, p.2)
  | _ => .no := Eq.trans rfl rfl
def gLower (s : Str) : Rs D := if s.length ≤ 5592405 then .ok (.str (Txt.lower s)) else .no
def gIsalpha (s : Str) : Rs D := .ok (.bool (Txt.isalpha s))
def gIsalnum (s : Str) : Rs D := .ok (.bool (Txt.isalnum s))
def gIsascii (s : Str) : Rs D := .ok (.bool (Txt.isascii s))
section
variable {X : Cx} {pos : Pos} {ex : Expr}
theorem ms0_inv {g : Str → Rs D} {ma : M D} {e e' : En} {c : Ce} (hm : mS0 g ma e = .ok (c, e')) : ∃ s d, ma e = .ok (.str s, e') ∧ g s = .ok d ∧ c = .f d := by
  obtain ⟨d, e1, h1, hm⟩ := bind_ok2 hm
  dsimp only at hm
  cases d <;> first
    | (cases hm; done)
    | skip
  obtain ⟨d, h2, hm⟩ := Rs.bind_eq hm
  cases hm
  exact ⟨_, d, h1, h2, rfl⟩
theorem pn_lower {apos : Pos} {eo : Expr} {ma : M D} (ho : PF X eo ma) (hbase : attributeBase eo "lower" X.env (eval eo X.env) = eval eo X.env := by rfl) (hline : (apos.endLine == pos.line) = true := by rfl) :
    PN X (.Call (.Attribute eo "lower" apos) [] [] pos) (mS0 gLower ma) := PEimp (pe_lower ho hbase hline) fun σ H Q ⟨G, F, e, c, e', r, hm, q⟩ => by
  obtain ⟨s, d, h1, h2, rfl⟩ := ms0_inv hm
  obtain ⟨hz, h2⟩ := ite_ok h2
  cases h2
  refine ⟨G, F, e, _, _, r, h1, fun v F1 H1 n1 hv => ?_⟩
  cases hv.str_inv
  exact ⟨⟨s, rfl⟩, s, rfl, rfl, hz, q _ F1 H1 n1 (.inl ⟨_, rfl, .str _⟩)⟩
theorem pn_isalpha {apos : Pos} {eo : Expr} {ma : M D} (ho : PF X eo ma) (hbase : attributeBase eo "isalpha" X.env (eval eo X.env) = eval eo X.env := by rfl) (hline : (apos.endLine == pos.line) = true := by rfl) :
    PN X (.Call (.Attribute eo "isalpha" apos) [] [] pos) (mS0 gIsalpha ma) := PEimp (pe_m0 PySem.F.slot_str_isalpha PySem.F.type_str_isalpha mt_isalpha ho hbase hline) fun σ H Q ⟨G, F, e, c, e', r, hm, q⟩ => by
  obtain ⟨s, d, h1, h2, rfl⟩ := ms0_inv hm
  cases h2
  refine ⟨G, F, e, _, _, r, h1, fun v F1 H1 n1 hv => ?_⟩
  cases hv.str_inv
  exact ⟨⟨s, rfl⟩, s, rfl, rfl, trivial, q _ F1 H1 n1 (.inl ⟨_, rfl, .bl _⟩)⟩
theorem pn_isalnum {apos : Pos} {eo : Expr} {ma : M D} (ho : PF X eo ma) (hbase : attributeBase eo "isalnum" X.env (eval eo X.env) = eval eo X.env := by rfl) (hline : (apos.endLine == pos.line) = true := by rfl) :
    PN X (.Call (.Attribute eo "isalnum" apos) [] [] pos) (mS0 gIsalnum ma) := PEimp (pe_m0 PySem.F.slot_str_isalnum PySem.F.type_str_isalnum mt_isalnum ho hbase hline) fun σ H Q ⟨G, F, e, c, e', r, hm, q⟩ => by
  obtain ⟨s, d, h1, h2, rfl⟩ := ms0_inv hm
  cases h2
  refine ⟨G, F, e, _, _, r, h1, fun v F1 H1 n1 hv => ?_⟩
  cases hv.str_inv
  exact ⟨⟨s, rfl⟩, s, rfl, rfl, trivial, q _ F1 H1 n1 (.inl ⟨_, rfl, .bl _⟩)⟩
theorem pn_isascii {apos : Pos} {eo : Expr} {ma : M D} (ho : PF X eo ma) (hbase : attributeBase eo "isascii" X.env (eval eo X.env) = eval eo X.env := by rfl) (hline : (apos.endLine == pos.line) = true := by rfl) :
    PN X (.Call (.Attribute eo "isascii" apos) [] [] pos) (mS0 gIsascii ma) := PEimp (pe_m0 PySem.F.slot_str_isascii PySem.F.type_str_isascii mt_isascii ho hbase hline) fun σ H Q ⟨G, F, e, c, e', r, hm, q⟩ => by
  obtain ⟨s, d, h1, h2, rfl⟩ := ms0_inv hm
  cases h2
  refine ⟨G, F, e, _, _, r, h1, fun v F1 H1 n1 hv => ?_⟩
  cases hv.str_inv
  exact ⟨⟨s, rfl⟩, s, rfl, rfl, trivial, q _ F1 H1 n1 (.inl ⟨_, rfl, .bl _⟩)⟩
end
/-! ### str(i) -/
def strD : List D → Rs Ce
  | [.int i] => if i.natAbs < 2 ^ 1900 then .ok (.f (.str (toString i))) else .no
  | _ => .no
theorem log2_lt {n : Nat} (h : n < 2 ^ 1900) : n.log2 < 1920 := by
  rcases Nat.eq_zero_or_pos n with z | z
  · subst z; decide
  · have := (Nat.log2_lt (by omega)).mpr h
    omega
theorem snd_str {K : PySem.W.Frag} : SndL K (fun xs H Q => ∃ i, xs = [.int i] ∧ i.natAbs.log2 < 1920 ∧ Q (.str (toString i)) H) strD := fun F H xs ds c Q fh hx hg q => by
  unfold strD at hg
  split at hg
  · rename_i i
    obtain ⟨hz, hg⟩ := ite_ok hg
    cases hg
    cases hx with
    | cons h1 h2 =>
      cases h2
      rw [h1.int]
      exact ⟨i, rfl, log2_lt hz, ret1 fh (.str _) rfl q⟩
  · cases hg
/-! ### dict(pairs) -/
def prD : D → Option (Key × D)
  | .tuple [k, v] => k.key.map fun k => (k, v)
  | _ => none
def prsD : List D → Option (List (Key × D))
  | [] => some []
  | d :: ds => match prD d, prsD ds with
    | some p, some ps => some (p :: ps)
    | _, _ => none
def dictPD : List D → Rs Ce
  | [.list ds] => (match prsD ds with
    | some kvs => if (kvs.map (·.1)).Nodup then .ok (.k false false (kvs.map fun p => kD p.1) (kvs.map (·.2))) else .no
    | none => .no)
  | _ => .no
theorem merge_nodup : ∀ (kvs acc : List (Key × V)), ((acc ++ kvs).map (·.1)).Nodup → mergeK acc kvs = acc ++ kvs
  | [], acc, _ => by simp [mergeK]
  | (k, v) :: kvs, acc, h => by
    have hk : (acc.any fun kv => decide (kv.1 = k)) = false := by
      rw [List.any_eq_false]
      intro p hp
      have hn : p.1 ≠ k := by
        intro e
        rw [List.map_append, List.nodup_append] at h
        exact h.2.2 p.1 (List.mem_map.mpr ⟨p, hp, rfl⟩) k (by simp) e
      simpa using hn
    have hput : L2.putK acc k v = acc ++ [(k, v)] := by
      unfold L2.putK
      rw [if_neg (by rw [hk]; decide)]
    have : mergeK acc ((k, v) :: kvs) = mergeK (L2.putK acc k v) kvs := rfl
    rw [this, hput, merge_nodup kvs (acc ++ [(k, v)]) (by simpa using h)]
    simp
section
variable {K : PySem.W.Frag} {F H : Hp}
theorem prs_at (fh : Ex F H) : ∀ {xs : List V} {ds : List D} {kvs : List (Key × D)}, DnA K F xs ds → prsD ds = some kvs → ∃ (ps : List Addr) (kvv : List (Key × V)), xs = ps.map V.ref ∧ PySem.Paired (fun p kv => SqT K H p [kV kv.1, kv.2]) ps kvv ∧ kvv.map (·.1) = kvs.map (·.1) ∧ DnA K F (kvv.map (·.2)) (kvs.map (·.2))
  | _, [], kvs, .nil, h => by cases h; exact ⟨[], [], rfl, .nil, rfl, .nil⟩
  | _, d :: ds, kvs, .cons hd ha, h => by
    unfold prsD at h
    split at h
    · rename_i p ps0 h1 h2
      cases h
      obtain ⟨ps, kvv, rfl, q1, q2, q3⟩ := prs_at fh ha h2
      unfold prD at h1
      split at h1
      · rename_i k v
        obtain ⟨kk, hk, rfl⟩ := Option.map_eq_some_iff.mp h1
        obtain ⟨a, xs, rfl, g1, g2⟩ := hd.tuple_inv
        cases g2 with
        | cons dk t1 =>
          cases t1 with
          | cons dv t2 =>
            cases t2
            rename_i x y
            have hx : x = kV kk := by
              rw [key_kD hk] at dk
              cases kk with
              | inl i => exact dk.int_inv
              | inr s => exact dk.str_inv
            subst hx
            exact ⟨a :: ps, (kk, y) :: kvv, rfl, .cons (Evl.ex_t fh g1) q1, by simp [q2], .cons dv q3⟩
      · cases h1
    · cases h
theorem snd_dictP : SndL K (fun xs H Q => ∃ (a : Addr) (ps : List Addr) (kvs : List (Key × V)), xs = [.ref a] ∧ SqL K H a (ps.map V.ref) ∧ PySem.Paired (fun p kv => SqT K H p [kV kv.1, kv.2]) ps kvs ∧
    ∀ p, H p = none → Q (.ref p) (upd H p (.dK (mergeK [] kvs)))) dictPD := fun F H xs ds c Q fh hx hg q => by
  unfold dictPD at hg
  split at hg
  · rename_i ds
    split at hg
    · rename_i kvs hk
      obtain ⟨hn, hg⟩ := ite_ok hg
      cases hg
      cases hx with
      | cons h1 h2 =>
        cases h2
        obtain ⟨a, xs, rfl, g1, g2⟩ := h1.list fh
        obtain ⟨ps, kvv, rfl, q1, q2, q3⟩ := prs_at fh g2 hk
        refine ⟨a, ps, kvv, rfl, .inl (.inl g1), q1, fun p hp => ?_⟩
        rw [merge_nodup kvv [] (by rw [List.nil_append, q2]; exact hn), List.nil_append]
        refine q _ F _ (Go.newO fh hp) (.inr ⟨rfl, p, _, kvv.map (·.2), rfl, hp, ex_none fh hp, upd_same, .inl ⟨rfl, kvv, rfl, ?_, rfl⟩, q3⟩)
        have e1 : kvv.map (fun p => kD p.1) = (kvv.map (·.1)).map kD := by rw [List.map_map]; rfl
        have e2 : kvs.map (fun p => kD p.1) = (kvs.map (·.1)).map kD := by rw [List.map_map]; rfl
        rw [e1, e2, q2]
    · cases hg
  · cases hg
end
end DL

namespace DL
open PySem PySem.Spec PyProof.Rows
/-! ### len(set(texts)) -/
theorem gd_eq {xs : List Str} {i : Nat} (h : i < xs.length) : xs.getD i Str.empty = xs[i] := by
  rw [List.getD_eq_getElem?_getD, List.getElem?_eq_getElem h]
  rfl
/-- how many unlike ones among the first -/
def dkn (xs : List Str) : Nat → Nat
  | 0 => 0
  | i + 1 => if (xs.take i).any (fun y => y == xs.getD i Str.empty) = true then dkn xs i else dkn xs i + 1
theorem dkn_le (xs : List Str) : ∀ i, dkn xs i ≤ i
  | 0 => Nat.le_refl _
  | i + 1 => by
    have := dkn_le xs i
    unfold dkn
    split <;> omega
theorem dkn_nodup {xs : List Str} (h : xs.Nodup) : ∀ i, i ≤ xs.length → dkn xs i = i
  | 0, _ => rfl
  | i + 1, hi => by
    have e := dkn_nodup h i (by omega)
    have hf : (xs.take i).any (fun y => y == xs.getD i Str.empty) = false := by
      rw [List.any_eq_false]
      intro y hy
      obtain ⟨j, hj, rfl⟩ := List.getElem_of_mem hy
      rw [List.length_take] at hj
      rw [List.getElem_take, gd_eq (by omega)]
      intro q
      have := (List.getElem_inj h).mp (eq_of_beq q)
      omega
    unfold dkn
    rw [hf, e]
    rfl
theorem any_next {xs : List Str} {i : Nat} (h : i < xs.length) (z : Str) : ((xs.take i).any (fun y => y == z) || decide (z = xs.getD i Str.empty)) = (xs.take (i + 1)).any (fun y => y == z) := by
  rw [List.take_succ, List.any_append, List.getElem?_eq_getElem h, gd_eq h]
  rw [show (some xs[i]).toList = [xs[i]] from rfl, List.any_cons, List.any_nil, Bool.or_false]
  congr 1
  by_cases q : z = xs[i]
  · rw [decide_eq_true q, q]
    simp
  · rw [decide_eq_false q]
    exact (beq_eq_false_iff_ne.mpr (Ne.symm q)).symm
section
variable {prog : Program} {w : World} {A : Around} {R : Result → Shared → Prop} {it : Addr} {fp wr : List Addr} {G : Array GenState → Array GenState → Prop} {n : Nat} {P : Nat → Value → Prop} {St : Nat → Shared → Prop}
theorem fillStr (wk : WalksS prog w A.in1 it fp wr G n P St) (a : Addr) (ha : a ∉ fp) (xs : List Str) (hx : xs.length = n) (hn : n ≤ 1000) (hv : ∀ i v, P i v → ∃ t, v = .str (xs.getD i Str.empty) t) :
    ∀ (k i : Nat) (s : Shared), n - i = k → i ≤ n → St i s → s.heap.SetOf (PySem.strKind prog w) a (fun z => (xs.take i).any (fun y => y == z)) (dkn xs i) →
      (∀ s', Moved (a :: wr) G s s' → s'.heap.SetOf (PySem.strKind prog w) a (fun z => (xs.take n).any (fun y => y == z)) (dkn xs n) → R (.ok (.ret .none)) s') → codeAny (model prog w) A (.builtin "set.update.loop" ⟨[.ref a, .ref it], []⟩) R s := by
  have nw : a ∉ wr := fun q => ha (wk.sub _ q)
  have sb : ∀ b ∈ wr, b ∈ a :: wr := fun b q => List.mem_cons_of_mem _ q
  have far : ∀ {s s' : Shared} {T : Str → Bool} {m : Nat}, Moved wr G s s' → s.heap.SetOf (PySem.strKind prog w) a T m → s'.heap.SetOf (PySem.strKind prog w) a T m := fun {s s' T m} hm ⟨o, es, ep, t, ho, rest⟩ => ⟨o, es, ep, t, hm.heap a _ nw ho, rest⟩
  intro k
  induction k with
  | zero =>
    intro i s hk hi st hS fin
    obtain rfl : i = n := by omega
    apply codeAny_builtin PyProof.Rows.F.entry_set_update_loop
    rw [Around.under_plainId PyProof.Rows.F.plain_set_update_loop _] <;> skip
    exact wpAny_bind (wk.done s _ _ st fun s' hm => wpAny_pure (fin s' (hm.mono sb) (far hm hS)))
  | succ k ih =>
    intro i s hk hi st hS fin
    have lt : i < n := by omega
    have room := dkn_le xs i
    apply codeAny_builtin PyProof.Rows.F.entry_set_update_loop
    rw [Around.under_plainId PyProof.Rows.F.plain_set_update_loop _] <;> skip
    refine wpAny_bind (wk.item i s _ _ lt st fun v s1 hP st1 hm => ?_)
    obtain ⟨t, rfl⟩ := hv i v hP
    have hS1 := far hm hS
    refine wpAny_bind (wpAny_holding ?_)
    unfold setAdd
    refine wpAny_holding (wpAny_bind ((PySem.strKind prog w).pyHash (k := xs.getD i Str.empty) (strKind_is _ _ _ _) ?_))
    refine wpAny_setAddHashed_of (knd := PySem.strKind prog w) (s := { s1 with toks := s1.toks + 1 }) (strKind_is _ _ _ _) rfl hS1 (by unfold scanBound; omega) fun h2 same hS2 => ?_
    have hS3 : h2.SetOf (PySem.strKind prog w) a (fun z => (xs.take (i + 1)).any (fun y => y == z)) (dkn xs (i + 1)) := SetOf_congr hS2 (fun z => any_next (by omega) z) rfl
    have keep : ∀ (b : Addr), b ≠ a → ∀ o, s1.heap.get? b = some o → h2.get? b = some o := fun b hb o e => by
      rw [same.2 b hb]
      exact e
    refine wpAny_pure ⟨plainId_quiet PyProof.Rows.F.plain_set_update_loop _, ih (i + 1) _ (by omega) lt (wk.frame _ s1 _ _ st1 (Nat.le_succ _) fun b hb o e => keep b (fun q => ha (q ▸ hb)) o e) hS3 fun s3 hm3 hS4 => ?_⟩
    exact fin s3 (Moved.trans wk.gtrans ((hm.mono sb).then_heap (Nat.le_succ _) fun b o hb e => keep b (fun q => hb (q ▸ List.mem_cons_self)) o e) hm3) hS4
end
end DL

namespace DL
open PySem PySem.Spec PyProof.Rows
/-- what a set of texts is, made of a list -/
def MadeOf (prog : Program) (w : World) (xs : List Str) (s : Shared) (h' : Heap) : Prop :=
  h'.SetOf (PySem.strKind prog w) s.heap.objs.size (fun z => (xs.take xs.length).any (fun y => y == z)) (dkn xs xs.length) ∧ ∀ b o, b < s.heap.objs.size → s.heap.get? b = some o → h'.get? b = some o
section
variable {prog : Program} {w : World} {A : Around} {E : Value → Shared → Prop} {s : Shared}
set_option maxHeartbeats 6000000 in
theorem set_of_texts {l : Addr} {items : Array Value} {xs : List Str} {Q : Value → Shared → Prop} (quiet : A.handled = none) (lst : s.heap.IsList l items) (txt : PyProof.Rows.StrsAre items.toList xs) (few : xs.length ≤ 1000)
    (done : ∀ (h' : Heap) (tk : Nat), MadeOf prog w xs s h' → Q (.ref s.heap.objs.size) { s with heap := h', toks := tk }) : wpAny (model prog w) A (call (.type "set") [.ref l]) Q E s := by
  obtain ⟨c0, r0, mro0⟩ := PySem.F.called_set.mro
  have made0 := PySem.F.called_set.made
  have sub0 := PySem.F.called_set.sub
  apply wpAny_call
  apply codeAny_of_tree
  show wpAny _ _ (callAny (.type "set") _) _ _ _
  refine wpAny_pure ⟨Code.quiet_builtin _ (by decide +kernel), ?_⟩
  apply codeAny_builtin PySem.F.entry_type_call
  rw [Around.under_plain (weight_type_call_type "set" [.ref l] []) rfl] <;> skip
  have nt0 := PySem.F.called_set.notType
  have cc0 := PySem.F.called_set.canCreate
  have tc0 := PySem.F.typeCall_set_1 (.ref l)
  repeat (any_goals first | assumption | (wp_step))
  have mono := code_set_new_1 (.ref l) (prog := prog) (w := w) (A := A.in1) (s := s) (E := E) (Q₁ := fun ob st => ∃ led : Bool, ob = .ref s.heap.objs.size ∧ st = { s with heap := s.heap.push { cls := .type "set", dict := none, data := .set #[] 0 (.fresh 0 0 led) } }) fun led => ⟨led, rfl, rfl⟩
  refine codeAny_mono mono fun res st1 hres => ?_
  rcases res with err | fl
  · exact hres
  cases fl with
  | ret ob =>
    obtain ⟨led, rfl, rfl⟩ := hres
    have at0 : (s.heap.push { cls := .type "set", dict := none, data := .set #[] 0 (.fresh 0 0 led) }).get? s.heap.objs.size = some { cls := .type "set", dict := none, data := .set #[] 0 (.fresh 0 0 led) } :=
      Heap.get?_push_size _ rfl
    have ty0 : Shared.TypeIs { s with heap := s.heap.push { cls := .type "set", dict := none, data := .set #[] 0 (.fresh 0 0 led) } } (.ref s.heap.objs.size) "set" :=
      ⟨_, at0, rfl⟩
    have look0 := PySem.F.called_set.init.lookup
    have bind0 := PySem.F.called_set.init.bind (.ref s.heap.objs.size)
    repeat (any_goals first | assumption | (wp_step))
    refine codeAny_mono (codeAny_call_builtin (R := wants (fun r st2 => r = .none ∧ ∃ h' tk, st2 = { s with heap := h', toks := tk } ∧ MadeOf prog w xs s h') E) PySem.F.called_set.init.plain PySem.F.entry_set_init (check_set_init_1 ty0 ?_)) fun res2 st2 hres2 => ?_
    · obtain ⟨lo, hlo, lc, ln, ld⟩ := lst
      obtain ⟨lcls, ldict, ldata, lslots⟩ := lo
      simp only at lc ld
      subst lc
      subst ld
      have hlo1 : (s.heap.push { cls := .type "set", dict := none, data := .set #[] 0 (.fresh 0 0 led) }).get? l = some { cls := .type "list", dict := ldict, data := .seq items ln, slots := lslots } :=
        Heap.get?_push_of_some _ hlo
      have s1 := PySem.F.sub_list_set
      have s2 := PySem.F.sub_list_frozenset
      have s3 : (Value.type "list" == Value.type "dict") = false := by decide
      have lst1 : (s.heap.push { cls := .type "set", dict := none, data := .set #[] 0 (.fresh 0 0 led) }).IsList l items :=
        ⟨_, hlo1, rfl, ln, rfl⟩
      unfold Builtin.«set.__init__» noKeywords Builtin.Frozenset.updateFrom
      generalize itq : pyIter = itf
      wp_walk
      subst itq
      refine wpAny_pyIter_list lst1 (wpAny_bind (wpAny_runValue ?_))
      have below : l < s.heap.objs.size := Heap.lt_size hlo
      have quiet3 : A.in1.in1.in1.handled = none := by simp [quiet]
      have sz1 : (s.heap.push { cls := .type "set", dict := none, data := .set #[] 0 (.fresh 0 0 led) }).objs.size = s.heap.objs.size + 1 := Heap.size_push ..
      have off1 : l ≠ (s.heap.push { cls := .type "set", dict := none, data := .set #[] 0 (.fresh 0 0 led) }).objs.size := by
        rw [sz1]
        exact Nat.ne_of_lt (Nat.lt_succ_of_lt below)
      have off2 : s.heap.objs.size ∉ [(s.heap.push { cls := .type "set", dict := none, data := .set #[] 0 (.fresh 0 0 led) }).objs.size, l] := by
        rw [sz1]
        simp only [List.mem_cons, List.not_mem_nil, or_false, not_or]
        exact ⟨Nat.ne_of_lt (Nat.lt_succ_self _), Nat.ne_of_gt below⟩
      have lenx : xs.length = items.size := by
        have := StrsAre.len_eq txt
        rw [Array.length_toList] at this
        omega
      have val0 : ∀ (j : Nat) (v : Value), items[j]? = some v → ∃ t, v = .str (xs.getD j Str.empty) t := fun j v hj => SS.strs_at txt j v (by rw [Array.getElem?_toList]; exact hj)
      refine fillStr ((Walks.list quiet3 _ l off1 items).toS) s.heap.objs.size off2 xs lenx (by omega) val0 (items.size - 0) 0 _ (by omega) (Nat.zero_le _) ⟨⟨_, Heap.get?_push_size _ rfl, rfl, rfl⟩, lst1.push _⟩ ?start ?stop
      case start =>
        have at1 : ((s.heap.push { cls := .type "set", dict := none, data := .set #[] 0 (.fresh 0 0 led) }).push { cls := .type "list_iterator", data := .fields #[.ref l, .int 0 0] }).get? s.heap.objs.size = some { cls := .type "set", dict := none, data := .set #[] 0 (.fresh 0 0 led) } :=
          Heap.get?_push_of_some _ at0
        exact SetOf_congr ((setObjOf_fresh (knd := PySem.strKind prog w) led).setOf at1 (by unfold scanBound; omega)) (fun _ => rfl) rfl
      case stop =>
        intro st3 mv made
        obtain ⟨hp3, gn3, dr3, tk3, os3⟩ := st3
        obtain rfl : gn3 = s.gens := mv.gens
        obtain rfl : dr3 = s.drawn := mv.drawn
        obtain rfl : os3 = s.os := mv.os
        refine wpAny_pure (wpAny_pure ⟨rfl, hp3, tk3, rfl, by rw [lenx]; exact made, fun b o hb hget => ?_⟩)
        refine mv.heap b o ?_ (Heap.get?_push_of_some _ (Heap.get?_push_of_some _ hget))
        rw [sz1]
        simp only [List.mem_cons, List.not_mem_nil, or_false, not_or]
        exact ⟨Nat.ne_of_lt hb, Nat.ne_of_lt (Nat.lt_succ_of_lt hb)⟩
    · rcases res2 with err2 | fl2
      · exact hres2
      cases fl2 with
      | ret r2 =>
        obtain ⟨rfl, h2, tk2, rfl, made2⟩ := hres2
        repeat (any_goals first | assumption | (wp_step))
        exact done _ _ made2
      | _ => exact hres2.elim
  | _ => exact hres.elim
end
end DL

namespace DL
open PySem L2 PySem.Spec PyProof.Rows
def lenSetD : D → Rs Ce
  | .list ds => (match textsOf ds with
    | some xs => if xs.length ≤ 1000 then .ok (.f (.int (dkn xs xs.length : Int))) else .no
    | none => .no)
  | _ => .no
def mLenSet (m : M D) : M Ce := fun e => (m e).bind fun p => (lenSetD p.1).bind fun c => .ok (c, p.2)
@[simp] theorem mLenSet_r (m : M D) (e : En) : mLenSet m e = (m e).bind fun p => (lenSetD p.1).bind fun c => .ok (c, p.2) := Eq.trans rfl rfl
section
variable {X : Cx}
def tLenTexts (K : PySem.W.Frag) (ta : TE) : TE := fun σ H Q => ta σ H fun x H1 => ∃ l, ∃ xs : List Str, x = .ref l ∧ SqL K H1 l (xs.map V.str) ∧ xs.length ≤ 1000 ∧ Q (.int (dkn xs xs.length : Int)) H1
theorem pe_lenTexts {a : Expr} {ta : TE} {p p2 q pos : Pos} (calm : X.calm = true) (g1 : Gl X "len") (m1 : X.mg "len" = none) (g2 : Gl X "set") (m2 : X.mg "set" = none) (pa : PE X a ta) (one : starEach [a] X.env = (false, eval a X.env) :: starEach [] X.env := by rfl) :
    PE X (.Call (.Name "len" p) [.Call (.Name "set" p2) [a] [] q] [] pos) (tLenTexts X.K ta) := ⟨fun pins s σ H Q I h => by
  refine Call_ (ld_blt I g1 m1 boot_len (callWith_builtin1 (args_cons ?_ rfl) rfl rfl))
  refine Call_ (ld_blt I g2 m2 boot_set (callWith_type1 (args_cons ?_ one) one rfl))
  refine thn (pa.run pins s σ H _ I h) fun v s1 ⟨x, H1, I1, r1, q1⟩ => args_nil ?_
  obtain ⟨l, xs, rfl, hq, few, q1⟩ := q1
  cases r1
  obtain ⟨its, r, pl, _⟩ := I1.list hq
  refine set_of_texts (I1.ok.hd calm) pl.isList (by simpa using strsAre_of r) few fun h' tk ⟨made, kept⟩ => args_nil ?_
  obtain ⟨o, es, ep, t, ho, hex, hd, _, _, small, hf, hn⟩ := made
  have I2 : Inv X pins σ H1 { s1 with heap := h', toks := tk } := I1.kept fun b o e => kept b o (Heap.lt_size e) e
  have room : es.size < scanBound := small
  refine call_len_set ho hex hd hf (by rw [hn]; have := dkn_le xs xs.length; omega) ?_
  rw [hn]
  exact ⟨.int (dkn xs xs.length : Int), H1, I2.tok _, ⟨_, rfl⟩, q1⟩⟩
theorem pn_lenSet {a : Expr} {m : M D} {p p2 q pos : Pos} (calm : X.calm = true) (g1 : Gl X "len") (m1 : X.mg "len" = none) (g2 : Gl X "set") (m2 : X.mg "set" = none) (pa : PF X a m) (one : starEach [a] X.env = (false, eval a X.env) :: starEach [] X.env := by rfl) :
    PN X (.Call (.Name "len" p) [.Call (.Name "set" p2) [a] [] q] [] pos) (mLenSet m) := PEimp (pe_lenTexts calm g1 m1 g2 m2 pa one) fun σ H Q ⟨G, F, e, c, e', r, hm, q⟩ => by
  obtain ⟨d, e1, h1, hm⟩ := bind_ok2 hm
  obtain ⟨c', h2, hm⟩ := Rs.bind_eq hm
  cases hm
  refine ⟨G, F, e, d, _, r, h1, fun v F1 H1 n1 hv => ?_⟩
  cases d <;> first
    | (cases h2; done)
    | skip
  rename_i ds
  simp only [lenSetD] at h2
  split at h2
  · rename_i xs hx
    obtain ⟨hz, h2⟩ := ite_ok h2
    cases h2
    obtain ⟨l, vs, rfl, q1, q2⟩ := Dn.sq (.inl hv)
    rw [textsOf_eq hx] at q2
    rw [q2.strs] at q1
    exact ⟨l, xs, rfl, Evl.ex_l n1.r.fh q1, hz, q _ F1 H1 n1 (.inl ⟨_, rfl, .int _⟩)⟩
  · cases h2
end
end DL

namespace DL
open PySem L2 PyProof.Rows RT RZ
/-! ### x in xs, xs a list or a tuple -/
/-- flat members, or data of any depth in a list -/
def inOk (x : D) : D → Option (List D)
  | .list ds => if ((x.flat && ds.all D.flat) || (x.pl 60 && (D.list ds).pl 60)) = true then some ds else none
  | .ro ds => if ((x.flat && ds.all D.flat) || (x.pl 60 && (D.ro ds).pl 60)) = true then some ds else none
  | .tuple ds => if (x.flat && ds.all D.flat) = true then some ds else none
  | _ => none
def inD (x y : D) : Rs Ce := match inOk x y with
  | some ds => .ok (.f (.bool (ds.any fun z => D.eqb z x)))
  | none => .no
def notinD (x y : D) : Rs Ce := match inOk x y with
  | some ds => .ok (.f (.bool (!ds.any fun z => D.eqb z x)))
  | none => .no
section
variable {K : PySem.W.Frag} {F H : Hp}
theorem Vw.flat {d : D} {v : V} (h : Vw K F H d v) (f : d.flat = true) : Dn K F v d := by
  rcases h with h | ⟨a, o, xs, c, _, _, h, _, e⟩
  · exact h
  · cases c with
    | f d => exact h.elim
    | l p ds => rw [e] at f; cases f
    | k p t ks vs => rw [e] at f; cases f
theorem flat_eq {y x : V} {dy dx : D} (hy : Dn K F y dy) (hx : Dn K F x dx) (fy : dy.flat = true) (fx : dx.flat = true) : flatV y = true ∧ flatV x = true ∧ eqV y x = D.eqb dy dx := by
  cases dy <;> first
    | (cases fy; done)
    | skip
  all_goals cases hy
  all_goals cases dx <;> first
    | (cases fx; done)
    | skip
  all_goals cases hx
  all_goals refine ⟨rfl, rfl, ?_⟩
  all_goals (unfold D.eqb; rfl)
theorem flat_any {x : V} {dx : D} (hx : Dn K F x dx) (fx : dx.flat = true) : ∀ {xs : List V} {ds : List D}, DnA K F xs ds → ds.all D.flat = true → xs.all flatV = true ∧ inV x xs = ds.any fun z => D.eqb z dx
  | _, _, .nil, _ => ⟨rfl, rfl⟩
  | _, _, .cons (v := v) (d := d) h ha, f => by
    rw [List.all_cons, Bool.and_eq_true] at f
    obtain ⟨q1, q2⟩ := flat_any hx fx ha f.2
    obtain ⟨p1, _, p3⟩ := flat_eq h hx f.1 fx
    refine ⟨by rw [List.all_cons, p1, q1]; rfl, ?_⟩
    unfold inV at *
    rw [List.any_cons, List.any_cons, q2, p3]
theorem any_py {dx : D} {n m : Nat} (hx : dx.pl m = true) : ∀ {ds : List D}, D.plA n ds = true → (D.toPyA ds).any (fun z => PyData.eqv z dx.toPy) = ds.any fun z => D.eqb z dx := by
  intro ds
  induction ds generalizing n with
  | nil => intro _; simp [D.toPyA]
  | cons d ds ih =>
    intro h
    cases n with
    | zero => unfold D.plA at h; simp at h
    | succ n =>
      unfold D.plA at h
      have h' := Bool.and_eq_true_iff.mp h
      rw [D.toPyA, List.any_cons, List.any_cons, ih h'.2, D.eqb_py h'.1 hx]
/-- what is in, of both rules -/
theorem in_at {x y : V} {dx dy : D} {ds : List D} (fh : Ex F H) (hx : Vw K F H dx x) (hy : Vw K F H dy y) (h : inOk dx dy = some ds) :
    (∃ p xs, y = .ref p ∧ (SqL K H p xs ∨ SqT K H p xs) ∧ flatV x = true ∧ xs.all flatV = true ∧ inV x xs = ds.any fun z => D.eqb z dx) ∨
    (∃ d es, Dp K H x d ∧ Dp K H y (.list es) ∧ SeqAt.shaped d = true ∧ SeqAt.shaped (.list es) = true ∧ (es.any fun z => PyData.eqv z d) = ds.any fun z => D.eqb z dx) := by
  have flatL : ∀ {p : Addr} {xs : List V}, (dx.flat && ds.all D.flat) = true → DnA K F xs ds → flatV x = true ∧ xs.all flatV = true ∧ inV x xs = ds.any fun z => D.eqb z dx := fun f ha => by
    rw [Bool.and_eq_true] at f
    have hx' := hx.flat f.1
    obtain ⟨q1, q2⟩ := flat_any hx' f.1 ha f.2
    refine ⟨?_, q1, q2⟩
    have := f.1
    cases dx <;> first
      | (cases this; done)
      | (cases hx'; rfl)
  unfold inOk at h
  split at h
  · rename_i es
    split at h
    · rename_i hc
      cases h
      by_cases f : (dx.flat && ds.all D.flat) = true
      · obtain ⟨a, xs, rfl, g1, g2⟩ := hy.list fh
        obtain ⟨q1, q2, q3⟩ := flatL (p := a) f g2
        exact .inl ⟨a, xs, rfl, .inl (SqL.of g1), q1, q2, q3⟩
      · rw [eq_false_of_ne_true f, Bool.false_or, Bool.and_eq_true] at hc
        refine .inr ⟨dx.toPy, D.toPyA ds, hx.dp fh hc.1, ?_, shaped_pl hc.1, ?_, ?_⟩
        · have := hy.dp fh hc.2
          unfold D.toPy at this
          exact this
        · have := shaped_pl hc.2
          unfold D.toPy at this
          exact this
        · have h2 := hc.2
          unfold D.pl at h2
          exact any_py hc.1 h2
    · cases h
  · rename_i es
    split at h
    · rename_i hc
      cases h
      by_cases f : (dx.flat && ds.all D.flat) = true
      · obtain ⟨a, xs, rfl, g1, g2⟩ := hy.ro fh
        obtain ⟨q1, q2, q3⟩ := flatL (p := a) f g2
        exact .inl ⟨a, xs, rfl, .inl g1, q1, q2, q3⟩
      · rw [eq_false_of_ne_true f, Bool.false_or, Bool.and_eq_true] at hc
        refine .inr ⟨dx.toPy, D.toPyA ds, hx.dp fh hc.1, ?_, shaped_pl hc.1, ?_, ?_⟩
        · have := hy.dp fh hc.2
          unfold D.toPy at this
          exact this
        · have := shaped_pl hc.2
          unfold D.toPy at this
          exact this
        · have h2 := hc.2
          unfold D.pl at h2
          exact any_py hc.1 h2
    · cases h
  · rename_i es
    split at h
    · rename_i f
      cases h
      obtain ⟨a, xs, rfl, g1, g2, _⟩ := hy.tuple fh
      obtain ⟨q1, q2, q3⟩ := flatL (p := a) f g2
      exact .inl ⟨a, xs, rfl, .inr g1, q1, q2, q3⟩
    · cases h
  · cases h
end
def rInA (K : PySem.W.Frag) : R2 := fun x y H Q => rIn K false x y H Q ∨ rInD K x y H Q
def rNotInA (K : PySem.W.Frag) : R2 := fun x y H Q => rIn K true x y H Q ∨ rNotInD K x y H Q
theorem op_inA {X : Cx} (hu : X.A.units + 65 < cLine) : OpR X (compareOp .In) (rInA X.K) := op_in_seq.or (op_inD hu)
theorem op_notinA {X : Cx} (hu : X.A.units + 65 < cLine) : OpR X (compareOp .NotIn) (rNotInA X.K) := op_notIn_seq.or (op_notInD hu)
theorem snd_in {K : PySem.W.Frag} : Snd2 K (rInA K) inD := fun F H x y dx dy c Q fh hx hy hg q => by
  unfold inD at hg
  split at hg
  · rename_i ds h
    cases hg
    rcases in_at fh hx hy h with ⟨p, xs, rfl, h1, h2, h3, h4⟩ | ⟨d, es, h1, h2, h3, h4, h5⟩
    · exact .inl ⟨p, xs, rfl, h1, h2, h3, by rw [h4]; exact ret1 fh (.bl _) rfl q⟩
    · exact .inr ⟨d, es, h1, h2, h3, h4, by rw [h5]; exact ret1 fh (.bl _) rfl q⟩
  · cases hg
theorem snd_notin {K : PySem.W.Frag} : Snd2 K (rNotInA K) notinD := fun F H x y dx dy c Q fh hx hy hg q => by
  unfold notinD at hg
  split at hg
  · rename_i ds h
    cases hg
    rcases in_at fh hx hy h with ⟨p, xs, rfl, h1, h2, h3, h4⟩ | ⟨d, es, h1, h2, h3, h4, h5⟩
    · exact .inl ⟨p, xs, rfl, h1, h2, h3, by rw [h4]; exact ret1 fh (.bl _) rfl q⟩
    · exact .inr ⟨d, es, h1, h2, h3, h4, by rw [h5]; exact ret1 fh (.bl _) rfl q⟩
  · cases hg
theorem flat_map {α : Type} (f : α → D) (hf : ∀ x, (f x).flat = true) (xs : List α) : (xs.map f).all D.flat = true := by
  rw [List.all_eq_true]
  intro d hd
  obtain ⟨x, _, rfl⟩ := List.mem_map.mp hd
  exact hf x
@[simp] theorem inD_l (s : Str) (ys : List Str) : inD (.str s) (.list (ys.map .str)) = .ok (.f (.bool (ys.any fun y => y == s))) := by
  have h : ((D.str s).flat && (ys.map D.str).all D.flat) = true := by rw [flat_map D.str (fun _ => rfl)]; rfl
  have e : ((ys.map D.str).any fun z => D.eqb z (.str s)) = ys.any fun y => y == s := by
    rw [List.any_map]
    congr 1
  simp only [inD, inOk, h, Bool.true_or, if_true, e]
theorem inD_i (i : Int) (ys : List Int) : inD (.int i) (.list (ys.map .int)) = .ok (.f (.bool (decide (i ∈ ys)))) := by
  have h : ((D.int i).flat && (ys.map D.int).all D.flat) = true := by rw [flat_map D.int (fun _ => rfl)]; rfl
  have e : ((ys.map D.int).any fun z => D.eqb z (.int i)) = decide (i ∈ ys) := by
    rw [List.any_map, Bool.eq_iff_iff, List.any_eq_true, decide_eq_true_eq]
    constructor
    · rintro ⟨y, hy, e⟩
      simp only [Function.comp, D.eqb, beq_iff_eq] at e
      rw [← e]
      exact hy
    · intro hy
      exact ⟨i, hy, by simp [D.eqb]⟩
  simp only [inD, inOk, h, Bool.true_or, if_true, e]
end DL

namespace DL
open PySem L2 PySem.Spec PyProof.Rows
/-! ### sorted(set(ints)), up to 4000 of them -/
section
variable {prog : Program} {w : World} {A : Around} {E : Value → Shared → Prop} {s : Shared}
set_option maxHeartbeats 6000000 in
theorem set_of_ints {l : Addr} {items : Array Value} (ns : List Int) {Q : Value → Shared → Prop} (quiet : A.handled = none) (lst : s.heap.IsList l items) (num : PyProof.Rows.IntsAre items.toList ns) (few : ns.length + 1 < scanBound)
    (done : ∀ (h' : Heap) (tk c : Nat), SetR w h' s.heap.objs.size (fun j => decide (j ∈ ns)) c → c ≤ ns.length → (∀ b o, s.heap.get? b = some o → h'.get? b = some o) → Q (.ref s.heap.objs.size) { s with heap := h', toks := tk }) :
    wpAny (model prog w) A (call (.type "set") [.ref l]) Q E s := by
  have cnt : items.size = ns.length := by
    have := IntsAre.length num
    rw [Array.length_toList] at this
    exact this
  obtain ⟨c0, r0, mro0⟩ := PySem.F.called_set.mro
  have made0 := PySem.F.called_set.made
  have sub0 := PySem.F.called_set.sub
  apply wpAny_call
  apply codeAny_of_tree
  show wpAny _ _ (callAny (.type "set") _) _ _ _
  refine wpAny_pure ⟨Code.quiet_builtin _ (by decide +kernel), ?_⟩
  apply codeAny_builtin PySem.F.entry_type_call
  rw [Around.under_plain (weight_type_call_type "set" [.ref l] []) rfl] <;> skip
  have nt0 := PySem.F.called_set.notType
  have cc0 := PySem.F.called_set.canCreate
  have tc0 := PySem.F.typeCall_set_1 (.ref l)
  repeat (any_goals first | assumption | (wp_step))
  have mono := code_set_led1 (.ref l) (P := prog) (w := w) (A := A.in1) (s := s) (E := E) (Q₁ := fun ob st => ob = .ref s.heap.objs.size ∧ st = { s with heap := s.heap.push { cls := .type "set", dict := none, data := .set #[] 0 (.fresh 0 0 (!w.params.followText "set-order")) } }) ⟨rfl, rfl⟩
  refine codeAny_mono mono fun res st1 hres => ?_
  rcases res with err | fl
  · exact hres
  cases fl with
  | ret ob =>
    obtain ⟨rfl, rfl⟩ := hres
    have at0 : (s.heap.push { cls := .type "set", dict := none, data := .set #[] 0 (.fresh 0 0 (!w.params.followText "set-order")) }).get? s.heap.objs.size = some { cls := .type "set", dict := none, data := .set #[] 0 (.fresh 0 0 (!w.params.followText "set-order")) } :=
      Heap.get?_push_size _ rfl
    have ty0 : Shared.TypeIs { s with heap := s.heap.push { cls := .type "set", dict := none, data := .set #[] 0 (.fresh 0 0 (!w.params.followText "set-order")) } } (.ref s.heap.objs.size) "set" :=
      ⟨_, at0, rfl⟩
    have look0 := PySem.F.called_set.init.lookup
    have bind0 := PySem.F.called_set.init.bind (.ref s.heap.objs.size)
    repeat (any_goals first | assumption | (wp_step))
    refine codeAny_mono (codeAny_call_builtin (R := wants (fun r st2 => r = .none ∧ ∃ h' tk c, st2 = { s with heap := h', toks := tk } ∧ SetR w h' s.heap.objs.size (fun j => decide (j ∈ ns)) c ∧ c ≤ ns.length ∧ (∀ b o, s.heap.get? b = some o → h'.get? b = some o)) E) PySem.F.called_set.init.plain PySem.F.entry_set_init (check_set_init_1 ty0 ?_)) fun res2 st2 hres2 => ?_
    · obtain ⟨lo, hlo, lc, ln, ld⟩ := lst
      obtain ⟨lcls, ldict, ldata, lslots⟩ := lo
      simp only at lc ld
      subst lc
      subst ld
      have hlo1 : (s.heap.push { cls := .type "set", dict := none, data := .set #[] 0 (.fresh 0 0 (!w.params.followText "set-order")) }).get? l = some { cls := .type "list", dict := ldict, data := .seq items ln, slots := lslots } :=
        Heap.get?_push_of_some _ hlo
      have s1 := PySem.F.sub_list_set
      have s2 := PySem.F.sub_list_frozenset
      have s3 : (Value.type "list" == Value.type "dict") = false := by decide
      have lst1 : (s.heap.push { cls := .type "set", dict := none, data := .set #[] 0 (.fresh 0 0 (!w.params.followText "set-order")) }).IsList l items :=
        ⟨_, hlo1, rfl, ln, rfl⟩
      unfold Builtin.«set.__init__» noKeywords Builtin.Frozenset.updateFrom
      generalize itq : pyIter = itf
      wp_walk
      subst itq
      refine wpAny_pyIter_list lst1 (wpAny_bind (wpAny_runValue ?_))
      have below : l < s.heap.objs.size := Heap.lt_size hlo
      have quiet3 : A.in1.in1.in1.handled = none := by simp [quiet]
      have sz1 : (s.heap.push { cls := .type "set", dict := none, data := .set #[] 0 (.fresh 0 0 (!w.params.followText "set-order")) }).objs.size = s.heap.objs.size + 1 := Heap.size_push ..
      have off1 : l ≠ (s.heap.push { cls := .type "set", dict := none, data := .set #[] 0 (.fresh 0 0 (!w.params.followText "set-order")) }).objs.size := by
        rw [sz1]
        exact Nat.ne_of_lt (Nat.lt_succ_of_lt below)
      have off2 : s.heap.objs.size ∉ [(s.heap.push { cls := .type "set", dict := none, data := .set #[] 0 (.fresh 0 0 (!w.params.followText "set-order")) }).objs.size, l] := by
        rw [sz1]
        simp only [List.mem_cons, List.not_mem_nil, or_false, not_or]
        exact ⟨Nat.ne_of_lt (Nat.lt_succ_self _), Nat.ne_of_gt below⟩
      have val0 : ∀ (j : Nat) (v : Value), items[j]? = some v → ∃ k t, ns[j]? = some k ∧ v = .int k t := fun j v hj => by
        have hjl : j < ns.length := by rw [← cnt]; exact (Array.getElem?_eq_some_iff.mp hj).1
        obtain ⟨t, e⟩ := PyProof.Rows.IntsAre.int_at num j v (by rw [Array.getElem?_toList]; exact hj)
        refine ⟨ns[j], t, List.getElem?_eq_getElem hjl, ?_⟩
        rw [e, List.getD_eq_getElem?_getD, List.getElem?_eq_getElem hjl] <;> rfl
      refine L2.set_update_ints ((Walks.list quiet3 _ l off1 items).toS) s.heap.objs.size off2 ns cnt few val0 (items.size - 0) 0 _ (by omega) (Nat.zero_le _) ⟨⟨_, Heap.get?_push_size _ rfl, rfl, rfl⟩, lst1.push _⟩ ?start ?stop
      case start =>
        have at1 : ((s.heap.push { cls := .type "set", dict := none, data := .set #[] 0 (.fresh 0 0 (!w.params.followText "set-order")) }).push { cls := .type "list_iterator", data := .fields #[.ref l, .int 0 0] }).get? s.heap.objs.size = some { cls := .type "set", dict := none, data := .set #[] 0 (.fresh 0 0 (!w.params.followText "set-order")) } :=
          Heap.get?_push_of_some _ at0
        exact ⟨0, Nat.le_refl 0, setR_new_at at1⟩
      case stop =>
        intro st3 c3 mv le3 made
        obtain ⟨hp3, gn3, dr3, tk3, os3⟩ := st3
        obtain rfl : gn3 = s.gens := mv.gens
        obtain rfl : dr3 = s.drawn := mv.drawn
        obtain rfl : os3 = s.os := mv.os
        refine wpAny_pure (wpAny_pure ⟨rfl, hp3, tk3, c3, rfl, made, by rw [cnt] at le3; exact le3, fun b o hget => ?_⟩)
        have hb : b < s.heap.objs.size := Heap.lt_size hget
        refine mv.heap b o ?_ (Heap.get?_push_of_some _ (Heap.get?_push_of_some _ hget))
        rw [sz1]
        simp only [List.mem_cons, List.not_mem_nil, or_false, not_or]
        exact ⟨Nat.ne_of_lt hb, Nat.ne_of_lt (Nat.lt_succ_of_lt hb)⟩
    · rcases res2 with err2 | fl2
      · exact hres2
      cases fl2 with
      | ret r2 =>
        obtain ⟨rfl, h2, tk2, c2, rfl, made2, le2, kept2⟩ := hres2
        repeat (any_goals first | assumption | (wp_step))
        exact done _ _ _ made2 le2 kept2
      | _ => exact hres2.elim
  | _ => exact hres.elim
theorem sorted_of_set {a : Addr} {T : Int → Bool} {n : Nat} {Q : Value → Shared → Prop} (R : SetR w s.heap a T n) (quiet : A.handled = none)
    (done : ∀ (s' : Shared) (p : Addr) (out : Array Value) (c : Nat) (ns : List Int), (∀ b o, s.heap.get? b = some o → s'.heap.get? b = some o) → s'.gens = s.gens → s'.os = s.os → s.heap.objs.size ≤ p →
      s'.heap.get? p = some (seqObj "list" out c) → IntsAre out.toList ns → ns.Pairwise (· < ·) → (∀ k, k ∈ ns ↔ T k = true) → ns.length = n → Q (.ref p) s') :
    wpAny (model prog w) A (call (.builtin "sorted") [.ref a]) Q E s := by
  obtain ⟨ob, es, ep, tb, hob, hex, hdt, good, dist, mem, few, fit, num, ris, led⟩ := R
  refine Calls.call_function_entry kind_sorted plain_sorted entry_sorted (args_sorted1 _) (?_ : wpAny _ _ (Builtin.«sorted» _) _ _ _)
  unfold Builtin.«sorted»
  refine wpAny_bind (m := checkCount "sorted" 1 1 _) (wpAny_pure (wpAny_bind (collect_set (A := A.in1) quiet ⟨ob, hob, hex.1, hdt⟩ fit few ris led fun s1 vs keep1 grow1 gens1 os1 perm1 => ?_)))
  have lenv : vs.length = n := by rw [perm1.length_eq, List.length_map, Array.length_toList]; exact num
  have lenz : vs.length ≤ sizeLine := by rw [perm1.length_eq, List.length_map, Array.length_toList, sizeLine_eq]; have : es.size < 4096 := few; omega
  have ints1 : IntsAre vs (vs.map Builtin.Re.reRawOf) := ints_of vs fun v hv => by
    obtain ⟨e, he, q⟩ := List.mem_map.mp (perm1.mem_iff.mp hv)
    obtain ⟨k, tk, h1, _⟩ := good e he
    exact ⟨k, tk, by rw [← q]; exact h1⟩
  have permk : (vs.map Builtin.Re.reRawOf).Perm (es.toList.map keyOf) := by
    have := perm1.map Builtin.Re.reRawOf
    rw [List.map_map] at this
    exact this
  refine wpAny_bind (wpAny_newList ?_ lenz)
  have atL : (s1.heap.push (seqObj "list" vs.toArray 0)).get? s1.heap.objs.size = some (seqObj "list" vs.toArray 0) := Heap.get?_push_size _ rfl
  refine wpAny_bind (wpAny_holding (wpAny_call_entry slot_list_sort ⟨_, atL, rfl⟩ entry_list_sort (SrtO.list_sort_ord SrtO.swo_int atL lenz (fun h2 => SrtO.ints_sortable ints1 h2) fun out h1 h2 => ⟨_, rfl, ?_⟩) (args_list_sort _)))
  obtain ⟨k1, k2, k3⟩ := SrtO.ints_out ints1 h1 h2
  obtain ⟨c, hc⟩ := sortedHeap_at (vs := vs) (out := out.toArray) atL
  have pn := k2.trans permk
  refine wpAny_pure ⟨_, rfl, done _ s1.heap.objs.size out.toArray c _ (fun b u e => ?_) gens1 os1 grow1 hc (by simpa using k1) (lt_of_le_nodup _ k3 (pn.nodup_iff.mpr dist)) (fun k => by rw [pn.mem_iff, ← mem k]) ?_⟩
  · have q := keep1 b u e
    have lt1 := Heap.lt_size q
    show (sortedHeap (s1.heap.push (seqObj "list" vs.toArray 0)) s1.heap.objs.size vs out.toArray).get? b = some u
    rw [sortedHeap_old (Nat.ne_of_lt lt1) (by rw [size_push']; exact Nat.lt_succ_of_lt lt1)]
    exact Heap.get?_push_of_some _ q
  · rw [pn.length_eq, List.length_map, Array.length_toList]; exact num
end
/-- ascending, each once -/
def insU (k : Int) : List Int → List Int
  | [] => [k]
  | x :: xs => if k < x then k :: x :: xs else if k = x then x :: xs else x :: insU k xs
def srtU : List Int → List Int
  | [] => []
  | k :: ks => insU k (srtU ks)
theorem mem_insU {k j : Int} : ∀ {xs : List Int}, j ∈ insU k xs ↔ j = k ∨ j ∈ xs
  | [] => by simp [insU]
  | x :: xs => by
    unfold insU
    split
    · simp
    · split
      · rename_i h
        subst h
        simp
      · rw [List.mem_cons, mem_insU, List.mem_cons]
        constructor
        · rintro (h | h | h)
          · exact .inr (.inl h)
          · exact .inl h
          · exact .inr (.inr h)
        · rintro (h | h | h)
          · exact .inr (.inl h)
          · exact .inl h
          · exact .inr (.inr h)
theorem insU_pw {k : Int} : ∀ {xs : List Int}, xs.Pairwise (· < ·) → (insU k xs).Pairwise (· < ·)
  | [], _ => by simp [insU]
  | x :: xs, h => by
    obtain ⟨h1, h2⟩ := List.pairwise_cons.mp h
    unfold insU
    split
    · rename_i q
      refine List.pairwise_cons.mpr ⟨fun y hy => ?_, h⟩
      rcases List.mem_cons.mp hy with rfl | hy
      · exact q
      · have := h1 y hy; omega
    · split
      · exact h
      · refine List.pairwise_cons.mpr ⟨fun y hy => ?_, insU_pw h2⟩
        rcases mem_insU.mp hy with rfl | hy
        · omega
        · exact h1 y hy
theorem srtU_pw : ∀ ks : List Int, (srtU ks).Pairwise (· < ·)
  | [] => .nil
  | k :: ks => insU_pw (srtU_pw ks)
theorem mem_srtU {j : Int} : ∀ {ks : List Int}, j ∈ srtU ks ↔ j ∈ ks
  | [] => Iff.rfl
  | k :: ks => by
    show j ∈ insU k (srtU ks) ↔ j ∈ k :: ks
    rw [mem_insU, mem_srtU, List.mem_cons]
theorem pw_uniq : ∀ {xs ys : List Int}, xs.Pairwise (· < ·) → ys.Pairwise (· < ·) → (∀ k, k ∈ xs ↔ k ∈ ys) → xs = ys
  | [], [], _, _, _ => rfl
  | [], y :: ys, _, _, h => absurd ((h y).mpr List.mem_cons_self) (by simp)
  | x :: xs, [], _, _, h => absurd ((h x).mp List.mem_cons_self) (by simp)
  | x :: xs, y :: ys, hx, hy, h => by
    obtain ⟨x1, x2⟩ := List.pairwise_cons.mp hx
    obtain ⟨y1, y2⟩ := List.pairwise_cons.mp hy
    have e : x = y := by
      have a := (h x).mp List.mem_cons_self
      have b := (h y).mpr List.mem_cons_self
      rcases List.mem_cons.mp a with a | a
      · exact a
      · rcases List.mem_cons.mp b with b | b
        · exact b.symm
        · have := y1 x a; have := x1 y b; omega
    subst e
    rw [pw_uniq x2 y2 fun k => ⟨fun m => ?_, fun m => ?_⟩]
    · rcases List.mem_cons.mp ((h k).mp (List.mem_cons_of_mem _ m)) with q | q
      · have := x1 k m; omega
      · exact q
    · rcases List.mem_cons.mp ((h k).mpr (List.mem_cons_of_mem _ m)) with q | q
      · have := y1 k m; omega
      · exact q
/-- sorted(set(xs)) -/
def sortSetD : D → Rs Ce
  | .list ds => (match intsOf ds with
    | some is => if is.length ≤ 4000 then .ok (.l false ((srtU is).map .int)) else .no
    | none => .no)
  | _ => .no
def mSortSet (m : M D) : M Ce := fun e => (m e).bind fun p => (sortSetD p.1).bind fun c => .ok (c, p.2)
@[simp] theorem mSortSet_r (m : M D) (e : En) : mSortSet m e = (m e).bind fun p => (sortSetD p.1).bind fun c => .ok (c, p.2) := Eq.trans rfl rfl
theorem sortSetD_i {is : List Int} (h : is.length ≤ 4000) : sortSetD (.list (is.map .int)) = .ok (.l false ((srtU is).map .int)) := by
  show (match intsOf (is.map .int) with | some is => if is.length ≤ 4000 then Rs.ok (Ce.l false ((srtU is).map .int)) else .no | none => .no) = _
  rw [intsOf_ints]
  exact if_pos h
section
variable {X : Cx}
def tSortSet (K : PySem.W.Frag) (ta : TE) : TE := fun σ H Q => ta σ H fun x H1 => ∃ l, ∃ xs : List Int, x = .ref l ∧ SqL K H1 l (xs.map V.int) ∧ xs.length ≤ 4000 ∧ ∀ p, H1 p = none → Q (.ref p) (upd H1 p (.lst ((srtU xs).map V.int)))
theorem pe_sortSet {a : Expr} {ta : TE} {p p2 q pos : Pos} (calm : X.calm = true) (g1 : Gl X "sorted") (m1 : X.mg "sorted" = none) (g2 : Gl X "set") (m2 : X.mg "set" = none) (pa : PE X a ta) (one : starEach [a] X.env = (false, eval a X.env) :: starEach [] X.env := by rfl) :
    PE X (.Call (.Name "sorted" p) [.Call (.Name "set" p2) [a] [] q] [] pos) (tSortSet X.K ta) := ⟨fun pins s σ H Q I h => by
  refine Call_ (ld_blt I g1 m1 bt_sorted (callWith_builtin1 (args_cons ?_ rfl) rfl rfl))
  refine Call_ (ld_blt I g2 m2 boot_set (callWith_type1 (args_cons ?_ one) one rfl))
  refine thn (pa.run pins s σ H _ I h) fun v s1 ⟨x, H1, I1, r1, q1⟩ => args_nil ?_
  obtain ⟨l, xs, rfl, hq, few, q1⟩ := q1
  cases r1
  obtain ⟨its, r, pl, _⟩ := I1.list hq
  refine set_of_ints xs (I1.ok.hd calm) pl.isList (by simpa using r.ints) (by unfold scanBound; omega) fun h' tk c made le kept => args_nil ?_
  have I2 : Inv X pins σ H1 { s1 with heap := h', toks := tk } := I1.kept fun b o e => kept b o e
  refine sorted_of_set made (I2.ok.hd calm) fun s' p out c' ns k g o hp hg hi hs hm hl => ?_
  have en : ns = srtU xs := pw_uniq hs (srtU_pw xs) fun j => by rw [hm j, mem_srtU, decide_eq_true_eq]
  subst en
  have hlen : ((srtU xs).map V.int).length ≤ sizeLine := by rw [List.length_map, hl, sizeLine_eq]; omega
  have hn : H1 p = none := I2.hok.fresh hp
  have J : Inv X pins σ (upd H1 p (.lst ((srtU xs).map V.int))) { ({ s1 with heap := h', toks := tk } : Shared) with heap := s'.heap, gens := s'.gens, drawn := s'.drawn, toks := s'.toks } :=
    I2.call (ch := []) (Un.laid k hp hn) (I2.hok.laid k hp ⟨hlen, out.toList, c', vals_of_ints hi, hg⟩) (by rw [g]; exact I2.bare) (fun _ z => nomatch z)
  have e : s' = { s1 with heap := s'.heap, gens := s'.gens, drawn := s'.drawn, toks := s'.toks } := by
    cases s'
    cases s1
    cases o
    rfl
  rw [e]
  exact ⟨.ref p, _, J, rfl, q1 p hn⟩⟩
theorem pn_sortSet {a : Expr} {m : M D} {p p2 q pos : Pos} (calm : X.calm = true) (g1 : Gl X "sorted") (m1 : X.mg "sorted" = none) (g2 : Gl X "set") (m2 : X.mg "set" = none) (pa : PF X a m) (one : starEach [a] X.env = (false, eval a X.env) :: starEach [] X.env := by rfl) :
    PN X (.Call (.Name "sorted" p) [.Call (.Name "set" p2) [a] [] q] [] pos) (mSortSet m) := PEimp (pe_sortSet calm g1 m1 g2 m2 pa one) fun σ H Q ⟨G, F, e, c, e', r, hm, q⟩ => by
  obtain ⟨d, e1, h1, hm⟩ := bind_ok2 hm
  obtain ⟨c', h2, hm⟩ := Rs.bind_eq hm
  cases hm
  refine ⟨G, F, e, d, _, r, h1, fun v F1 H1 n1 hv => ?_⟩
  cases d <;> first
    | (cases h2; done)
    | skip
  rename_i ds
  simp only [sortSetD] at h2
  split at h2
  · rename_i xs hx
    obtain ⟨hz, h2⟩ := ite_ok h2
    cases h2
    obtain ⟨l, vs, rfl, q1, q2⟩ := Dn.sq (.inl hv)
    rw [intsOf_eq hx] at q2
    rw [q2.ints] at q1
    refine ⟨l, xs, rfl, Evl.ex_l n1.r.fh q1, hz, fun p hp => ?_⟩
    have go : Go F1 H1 F1 (upd H1 p (.lst ((srtU xs).map V.int))) noA := Go.newO n1.r.fh hp
    exact q _ _ _ (n1.trans (n1.r.step go)) (.inr ⟨rfl, p, _, _, rfl, n1.go.old r.fh hp, ex_none n1.r.fh hp, upd_same, rfl, dnA_ints _⟩)
  · cases h2
end
end DL

namespace DL
open PySem L2 PyProof.Rows RT RZ
/-! ### d.get(k, x) -/
def D.isDc : D → Bool
  | .dict _ _ _ => true
  | _ => false
def getOrD : D → D → D → Rs D
  | .dict t ks vs, k, x => if keyOk t k = true then .ok (match dFind ks vs k with
    | some d => d
    | none => x) else .no
  | _, _, _ => .no
def mGetO (md : M Hd) (mk mx : M D) : M D := fun e => (md e).bind fun p => (p.1.get p.2).bind fun d0 => if d0.isDc = true then (mk p.2).bind fun q => (mx q.2).bind fun z => (p.1.get z.2).bind fun d => (getOrD d q.1 z.1).bind fun r => .ok (r, z.2) else .no
@[simp] theorem mGetO_r (md : M Hd) (mk mx : M D) (e : En) : mGetO md mk mx e = (md e).bind fun p => (p.1.get p.2).bind fun d0 => if d0.isDc = true then (mk p.2).bind fun q => (mx q.2).bind fun z => (p.1.get z.2).bind fun d => (getOrD d q.1 z.1).bind fun r => .ok (r, z.2) else .no := Eq.trans rfl rfl
section
variable {X : Cx} {o f g : Expr} {apos cpos : Pos}
theorem isD_of {K : PySem.W.Frag} {F H : Hp} {a : Addr} {ob : HO} {t : Bool} {ks : List D} {xs : List V} (h : H a = some ob) (hc : DcO t ob ks xs) : IsD H a := by
  rcases hc with ⟨_, kvs, rfl, _⟩ | ⟨_, kvs, rfl, _⟩
  · exact .inl ⟨kvs, .inl h⟩
  · exact .inr ⟨kvs, .inl h⟩
theorem pf_getO {md : M Hd} {mk mx : M D} (hu : X.A.units + 1 < cLine) (ho : PH X o md) (hk : PF X f mk) (hx : PF X g mx)
    (base : attributeBase o "get" X.env (eval o X.env) = eval o X.env := by rfl)
    (few : ((backTo cpos (starEach [f, g] X.env)).all (fun x => !x.1) && (backToKw cpos (keywordEach [] X.env)).all (fun x => x.1.isSome)
      && decide (([f, g] : List Expr).length + ([] : List Keyword).length + (if ([] : List Keyword).isEmpty then 0 else 1) < 30)) = true := by rfl)
    (line : (apos.endLine == cpos.line) = true := by rfl) (trees : backTo cpos (starEach [f, g] X.env) = [(false, eval f X.env), (false, eval g X.env)] := by rfl) :
    PF X (.Call (.Attribute o "get" apos) [f, g] [] cpos) (mGetO md mk mx) := PEimp (pe_dget2 hu ho hk hx ⟨base, few, line, trees⟩) fun σ H Q ⟨G, F, e, c, e', r, hm, q⟩ => by
  obtain ⟨x, e1, h1, hm⟩ := bind_ok2 hm
  obtain ⟨d0, h2, hm⟩ := Rs.bind_eq hm
  obtain ⟨hd0, hm⟩ := ite_ok hm
  obtain ⟨k, e2, h3, hm⟩ := bind_ok2 hm
  obtain ⟨z, e3, h4, hm⟩ := bind_ok2 hm
  obtain ⟨d, h5, hm⟩ := Rs.bind_eq hm
  obtain ⟨w, h6, hm⟩ := Rs.bind_eq hm
  cases hm
  refine ⟨G, F, e, x, e1, r, h1, fun vx F1 H1 n1 hvx => ?_⟩
  cases d0 <;> first
    | (cases hd0; done)
    | skip
  rename_i t0 ks0 vs0
  obtain ⟨a, ob, xs, rfl, q1, q2, q3⟩ := (hvx.vw n1.r h2).dict n1.r.fh
  refine ⟨a, rfl, isD_of (K := X.K) (F := F1) q1 q2, ⟨G, F1, e1, k, e2, n1.r, h3, fun vk F2 H2 n2 hvk => ⟨G, F2, e2, z, _, n2.r, h4, fun vz F3 H3 n3 hvz => ?_⟩⟩⟩
  cases d <;> first
    | (cases h6; done)
    | skip
  rename_i t ks vs
  obtain ⟨hok, h6⟩ := ite_ok h6
  obtain ⟨a', ob', xs', ea, q1', q2', q3'⟩ := (((hvx.nx n2).nx n3).vw n3.r h5).dict n3.r.fh
  cases ea
  obtain ⟨rr, g1, g2, g3⟩ := dget_data n3.r.fh q1' q2' q3' hok (n3.dn hvk)
  have nn := (n1.trans n2).trans n3
  refine ⟨rr, g1, ?_⟩
  split at h6
  · rename_i dd hf
    cases h6
    simp only [hf] at g3
    obtain ⟨v, rfl, g4⟩ := g3
    exact q v F3 H3 nn g4
  · rename_i hf
    cases h6
    simp only [hf] at g3
    subst g3
    exact q vz F3 H3 nn hvz
end
end DL
namespace DL
open PySem L2 PyProof.Rows RT RZ
/-! ### three at once -/
section
variable {X : Cx} {ex ey ez : Expr} {pos : Pos}
theorem pds_par3 {i j l : Nat} {x y z : Str} {px py pz pt : Pos} {kt k2 : Nat} {pt2 : Pos} {m : M (List D)} (hc : X.calm = true) (hN : X.N.Nodup) (hi : X.N[i]? = some x) (hj : X.N[j]? = some y) (hl : X.N[l]? = some z) (hij : i ≠ j) (hil : i ≠ l) (hjl : j ≠ l)
    (hx : X.env.scope.names.lookup x = some .local) (hy : X.env.scope.names.lookup y = some .local) (hz : X.env.scope.names.lookup z = some .local) (ha : PAd X [ex, ey, ez] m)
    (hw : swappedStores [.Tuple [.Name x px, .Name y py, .Name z pz] kt pt] (.Tuple [ex, ey, ez] k2 pt2) X.env = pure (some [x, y, z]))
    (hs : swapsWithSole [.Tuple [.Name x px, .Name y py, .Name z pz] kt pt] (.Tuple [ex, ey, ez] k2 pt2) pos.line X.env = pure false := by rfl) :
    PDS X (.Assign [.Tuple [.Name x px, .Name y py, .Name z pz] kt pt] (.Tuple [ex, ey, ez] k2 pt2) pos) (sPar3 i j l m) :=
  PSimp (ps_par3 hc hN hi hj hl hij hil hjl hx hy hz ha hw hs) fun E σ H ⟨G, F, e, r, hp⟩ => by
    obtain ⟨ds, e1, h1, hp⟩ := onR_inv hp
    split at hp
    · rename_i a b c
      obtain ⟨hio, hp⟩ := post_ite hp
      obtain ⟨h3, h4⟩ := Bool.or_eq_false_iff.mp hio
      obtain ⟨h4, h5⟩ := Bool.or_eq_false_iff.mp h4
      refine ⟨G, F, e, _, e1, r, h1, fun vs F1 H1 n hd => ?_⟩
      cases hd with
      | cons d1 t1 => cases t1 with
        | cons d2 t2 => cases t2 with
          | cons d3 t3 =>
            cases t3
            rename_i v1 v2 v3
            refine ⟨v1, v2, v3, rfl, ?_⟩
            have r1 := n.r.set (i := i) h3 (.inl ⟨a, rfl, d1⟩)
            have r2 := r1.set (i := j) (ioAt_setN rfl h4) (.inl ⟨b, rfl, d2⟩)
            exact hp F1 H1 _ (r2.set (i := l) (ioAt_setN rfl (ioAt_setN rfl h5)) (.inl ⟨c, rfl, d3⟩)) n.go.ff
    · exact hp.elim
@[simp] theorem sPar3_r (i j l : Nat) (m : M (List D)) (e : En) : sPar3 i j l m e = onR (m e) fun ds e1 => match ds with
  | [a, b, c] => if (ioAt e1 i || (ioAt e1 j || ioAt e1 l)) = true then .no else .nx (((e1.set i (some (.f a))).set j (some (.f b))).set l (some (.f c)))
  | _ => .no := Eq.trans rfl rfl
end
end DL

namespace DL
open PySem L2 PyProof.Rows
/-! ### {k: v for .. in .. if ..} -/
noncomputable def dcLoop (t : Tg) (vs : List Nat) (c : M Bool) (mk mv : M D) : List D → List D → List D → En → Rs ((List D × List D) × En)
  | [], ks, ws, e => if vs.all (frozenAt e) = true then .ok ((ks, ws), e) else .no
  | d :: ds, ks, ws, e => if vs.all (frozenAt e) = true then (t d (wipeE e vs)).bind fun e1 => (c e1).bind fun p =>
      if p.1 = true then (mk p.2).bind fun k => (mv k.2).bind fun v => if keyOk false k.1 = true ∧ ks.length < 16000000 then dcLoop t vs c mk mv ds (dPutK ks k.1) (dPutW ks ws k.1 v.1) v.2 else .no
      else dcLoop t vs c mk mv ds ks ws p.2 else .no
noncomputable def mDComp (src : M (List D)) (t : Tg) (vs : List Nat) (c : M Bool) (mk mv : M D) : M Ce := fun e => (src e).bind fun p => (dcLoop t vs c mk mv p.1 [] [] p.2).bind fun q => .ok (.k false false q.1.1 q.1.2, restE p.2 q.2 vs)

section
variable {K : PySem.W.Frag} {G : Bs} {F H F1 H1 : Hp} {σ : L2.St} {e e1 e3 : En} {vs is : List Nat}
theorem dc_in {t : Tg} {c : M Bool} {mk mv : M D} {Q : VK} {ds xs ys : List DL.D} {J : It} (to : TgOk t is) (hs : ∀ i ∈ is, i ∈ vs) (r : R K G F H σ e) (n : Nx K G σ F H e F1 H1 e1) (wk : Wk K J F1 ds) (h2 : dcLoop t vs c mk mv ds [] [] e1 = .ok ((xs, ys), e3))
    (q : ∀ v F' H', Nx K G σ F H e F' H' (restE e1 e3 vs) → NAt K H F' H' (.k false false xs ys) v → Q v H') (D : Addr) (hD : H1 D = none) :
    ∃ W : Nat → Nat → Hp → Prop, (∃ m, W 0 m (upd H1 D (.dK []))) ∧ ∀ i m H, W i m H →
      (J.stop i H ∧ Q (.ref D) H) ∨ (J.go i H ∧ ∃ Nx : Hp → Prop, (∀ H', Nx H' → ∃ m', m' < m ∧ W (i + 1) m' H') ∧ ∀ x H', J.yld i H x H' → tG K t is x (L2.wipe σ vs) H' fun σ2 H2 => L2.wipe σ2 vs = L2.wipe σ vs ∧ tT K c σ2 H2 fun b H3 =>
        if b = true then tF K mk σ2 H3 fun y H4 => tF K mv σ2 H4 fun z H5 => ∃ kvs k, y = kV k ∧ H5 D = some (.dK kvs) ∧ kvs.length < sizeLine ∧ Nx (upd H5 D (.dK (L2.putK kvs k z))) else Nx H3) := by
  have fr0 : vs.all (frozenAt e1) = true := by
    cases ds with
    | nil => unfold dcLoop at h2; exact (ite_ok h2).1
    | cons d ds => unfold dcLoop at h2; exact (ite_ok h2).1
  have F1D : F1 D = none := ex_none n.r.fh hD
  obtain ⟨DnL, DGH, DGF, _⟩ := n.r.new hD
  have go0 : Go F1 H1 F1 (upd H1 D (.dK [])) noA := Go.newO n.r.fh hD
  refine ⟨fun i m' H' => m' = ds.length - i ∧ i ≤ ds.length ∧ ∃ (F2 : Hp) (e2 : En) (ks ws : List DL.D) (kvs : List (Key × V)), R K G F2 H' (L2.wipe σ vs) (wipeE e2 vs) ∧ e2.length = e1.length ∧ (wipeE e2 vs).map (Option.map Ce.kd) = (wipeE e1 vs).map (Option.map Ce.kd) ∧
      Go F1 H1 F2 H' (Lv σ e1) ∧ F2 D = none ∧ H' D = some (.dK kvs) ∧ kvs.map (fun p => kD p.1) = ks ∧ DnA K F2 (kvs.map (·.2)) ws ∧ dcLoop t vs c mk mv (ds.drop i) ks ws e2 = .ok ((xs, ys), e3),
    ⟨ds.length, by omega, Nat.zero_le _, F1, e1, [], [], [], ((n.r.wipe fr0).step go0).r, rfl, rfl, go0.any, F1D, upd_same, rfl, .nil, by rw [List.drop_zero]; exact h2⟩, ?_⟩
  rintro i m' H' ⟨rfl, hi, F2, e2, ks, ws, kvs, r2, len2, sh2, go2, FD, HD, dk, da, hc⟩
  obtain ⟨w1, w2⟩ := wk i F2 H' go2.ff r2.fh
  -- the list is no slot's
  have notLv : ∀ (e4 : En) (σ4 : L2.St), (∀ b, Lv σ4 e4 b → Lv σ e1 b) → ¬ Lv σ4 e4 D := fun e4 σ4 hh z => DnL (hh D z)
  have lvw : ∀ b, Lv (L2.wipe σ vs) (wipeE e2 vs) b → Lv σ e1 b := fun b ⟨j, cc, g1, g2, g3⟩ => by
    obtain ⟨c', g4, g5⟩ := sh_at sh2.symm g1
    rw [wipeE_get] at g4
    by_cases hv : j ∈ vs
    · rw [if_pos hv] at g4
      cases q : e1[j]? with
      | none => rw [q] at g4; cases g4
      | some o => rw [q] at g4; cases g4
    · rw [if_neg hv] at g4
      rw [wipe_get, if_neg hv] at g3
      exact ⟨j, c', g4, by rw [(kd_ow g5).1]; exact g2, g3⟩
  by_cases hlt : i < ds.length
  · have hd : ds[i]? = some ds[i] := List.getElem?_eq_getElem hlt
    obtain ⟨g1, g2⟩ := w1 _ hd
    rw [List.drop_eq_getElem_cons hlt] at hc
    unfold dcLoop at hc
    obtain ⟨fr, hc⟩ := ite_ok hc
    obtain ⟨ea, ht, hc⟩ := Rs.bind_eq hc
    obtain ⟨⟨b, eb⟩, hcond, hc⟩ := Rs.bind_eq hc
    refine .inr ⟨g1, fun H'' => ∃ (F2 : Hp) (e2 : En) (ks ws : List DL.D) (kvs : List (Key × V)), R K G F2 H'' (L2.wipe σ vs) (wipeE e2 vs) ∧ e2.length = e1.length ∧ (wipeE e2 vs).map (Option.map Ce.kd) = (wipeE e1 vs).map (Option.map Ce.kd) ∧
      Go F1 H1 F2 H'' (Lv σ e1) ∧ F2 D = none ∧ H'' D = some (.dK kvs) ∧ kvs.map (fun p => kD p.1) = ks ∧ DnA K F2 (kvs.map (·.2)) ws ∧ dcLoop t vs c mk mv (ds.drop (i + 1)) ks ws e2 = .ok ((xs, ys), e3), fun H'' q => ⟨ds.length - (i + 1), by omega, rfl, hlt, q⟩, fun x H3 y => ?_⟩
    obtain ⟨F3, go3, hx⟩ := g2 x H3 y
    have n3 := r2.step go3
    have len_a : ea.length = e1.length := by rw [to.ln _ _ _ ht, wipeE_len, len2]
    have fr_a : vs.all (frozenAt ea) = true := by
      rw [List.all_eq_true]
      intro j hj
      refine to.fz _ _ _ ht j (.inr ?_)
      unfold frozenAt
      rw [wipeE_get, if_pos hj]
      cases e2[j]? <;> rfl
    -- behind the target: what is of one's own is as it was
    have sh_a : (wipeE ea vs).map (Option.map Ce.kd) = (wipeE e1 vs).map (Option.map Ce.kd) := by
      rw [← sh2]
      apply List.ext_getElem?
      intro j
      rw [List.getElem?_map, List.getElem?_map, wipeE_get, wipeE_get]
      by_cases hv : j ∈ vs
      · rw [if_pos hv, if_pos hv]
        have : (ea[j]?).isSome = (e2[j]?).isSome := by
          by_cases hj : j < e1.length
          · rw [List.getElem?_eq_getElem (by omega), List.getElem?_eq_getElem (by omega)]
            try rfl
          · rw [List.getElem?_eq_none (by omega), List.getElem?_eq_none (by omega)]
            try rfl
        cases q1 : ea[j]? <;> cases q2 : e2[j]? <;> simp_all
      · rw [if_neg hv, if_neg hv, to.ne _ _ _ ht j (fun z => hv (hs j z)), wipeE_get, if_neg hv]
    refine ⟨G, F3, _, _, ea, n3.r, hx, ht, fun σ2 r4 chg => ⟨wipe_chg chg hs, G, F3, ea, b, eb, r4, hcond, fun F5 H5 n5 => ?_⟩⟩
    have wσ : L2.wipe σ2 vs = L2.wipe σ vs := wipe_chg chg hs
    have lva : ∀ b, Lv σ2 ea b → Lv σ e1 b := fun b ⟨j, cc, z1, z2, z3⟩ => by
      have hv : j ∉ vs := fun hv => by
        rw [fr_at fr_a hv z1] at z2; cases z2
      refine lvw b ⟨j, cc, ?_, z2, ?_⟩
      · rw [← to.ne _ _ _ ht j (fun z => hv (hs j z))]; exact z1
      · rw [← chg.2 j (fun z => hv (hs j z))]; exact z3
    have F3D : F3 D = none := (go3.st D FD (by rw [HD]; rfl)).1
    have H3D : H3 D = some (.dK kvs) := go3.hh D _ HD (fun z => z)
    have da3 := da.mono go3.ff
    have go13 : Go F1 H1 F3 H3 (Lv σ e1) := go2.trans go3.any
    have F5D : F5 D = none := (n5.go.st D F3D (by rw [H3D]; rfl)).1
    have H5D : H5 D = some (.dK kvs) := n5.go.hh D _ H3D (notLv ea σ2 lva)
    have go15 : Go F1 H1 F5 H5 (Lv σ e1) := go13.trans (n5.go.mono lva)
    have fr_b : vs.all (frozenAt eb) = true := all_frozen_sh n5.sh fr_a
    have len_b : eb.length = e1.length := by
      have := congrArg List.length n5.sh
      simp only [List.length_map] at this
      rw [this, len_a]
    cases b with
    | false =>
      refine iteF ?_
      dsimp only at hc
      rw [if_neg Bool.false_ne_true] at hc
      have rw5 := n5.r.wipe fr_b
      rw [wσ] at rw5
      exact ⟨F5, eb, ks, ws, kvs, rw5, len_b, (wipe_sh n5.sh).trans sh_a, go15, F5D, H5D, dk, da3.mono n5.go.ff, hc⟩
    | true =>
      refine iteT ?_
      dsimp only at hc
      rw [if_pos rfl] at hc
      obtain ⟨⟨kd, ec⟩, hmk, hc⟩ := Rs.bind_eq hc
      obtain ⟨⟨z, ed⟩, hmv, hc⟩ := Rs.bind_eq hc
      obtain ⟨⟨hkey, hz⟩, hc⟩ := ite_ok hc
      refine ⟨G, F5, eb, kd, ec, n5.r, hmk, fun v F6 H6 n6 hv => ⟨G, F6, ec, z, ed, n6.r, hmv, fun v2 F7 H7 n7 hv2 => ?_⟩⟩
      have lvb : ∀ b, Lv σ2 eb b → Lv σ e1 b := fun b hb => lva b (sh_lv n5.sh hb)
      have F6D : F6 D = none := (n6.go.st D F5D (by rw [H5D]; rfl)).1
      have H6D : H6 D = some (.dK kvs) := n6.go.hh D _ H5D (notLv eb σ2 lvb)
      have lvc : ∀ b, Lv σ2 ec b → Lv σ e1 b := fun b hb => lvb b (sh_lv n6.sh hb)
      have F7D : F7 D = none := (n7.go.st D F6D (by rw [H6D]; rfl)).1
      have H7D : H7 D = some (.dK kvs) := n7.go.hh D _ H6D (notLv ec σ2 lvc)
      have go17 : Go F1 H1 F7 H7 (Lv σ e1) := (go15.trans (n6.go.mono lvb)).trans (n7.go.mono lvc)
      have fr_d : vs.all (frozenAt ed) = true := all_frozen_sh n7.sh (all_frozen_sh n6.sh fr_b)
      have len_d : ed.length = e1.length := by
        have h6 := congrArg List.length n6.sh
        have h7 := congrArg List.length n7.sh
        simp only [List.length_map] at h6 h7
        rw [h7, h6, len_b]
      have da7 := ((da3.mono n5.go.ff).mono n6.go.ff).mono n7.go.ff
      dsimp only at hkey hc hz
      unfold keyOk at hkey
      rw [if_neg Bool.false_ne_true] at hkey
      obtain ⟨kk, ek⟩ := Option.isSome_iff_exists.mp hkey
      rw [key_kD ek] at hv
      have hyv : v = kV kk := by
        cases kk with
        | inl i => exact hv.int_inv
        | inr s => exact hv.str_inv
      obtain ⟨p1, p2⟩ := put_data kD eqb_kD kk hv2 da7
      rw [dk] at p1 p2
      rw [key_kD ek] at hc
      have lk : kvs.length = ks.length := by rw [← dk, List.length_map]
      refine ⟨kvs, kk, hyv, H7D, by rw [lk]; exact small_line hz, F7, ed, _, _, L2.putK kvs kk v2, ?_, len_d, ((wipe_sh n7.sh).trans ((wipe_sh n6.sh).trans (wipe_sh n5.sh))).trans sh_a, ?_, F7D, upd_same, p1, p2, hc⟩
      · have rw7 := n7.r.wipe fr_d
        rw [wσ] at rw7
        refine rw7.other F7D (by rw [H7D]; rfl) (fun z => ?_) DGH
        obtain ⟨j, cc, z1, z2, z3⟩ := z
        have hv : j ∉ vs := fun hv => by
          rw [wipeE_get, if_pos hv] at z1
          cases q : ed[j]? with
          | none => rw [q] at z1; cases z1
          | some o => rw [q] at z1; cases z1
        rw [wipeE_get, if_neg hv] at z1
        refine notLv ed σ2 (fun b hb => lvc b (sh_lv n7.sh hb)) ⟨j, cc, z1, z2, ?_⟩
        rw [wipe_get, if_neg hv] at z3
        rw [chg.2 j (fun z => hv (hs j z)), wipe_get, if_neg hv]
        exact z3
      · refine ⟨go17.ff, fun b u hb hn => ?_, fun b u hb => ?_, fun b q1 q2 => ?_⟩
        · have hbD : b ≠ D := fun z => by subst z; rw [hD] at hb; cases hb
          rw [upd_ne hbD]
          exact go17.hh b u hb hn
        · rw [upd_ne (ne_of_none hb F7D)]
          exact go17.fh b u hb
        · have hbD : b ≠ D := fun z => by subst z; rw [hD] at q2; cases q2
          rw [upd_ne hbD]
          exact go17.st b q1 q2
  · have e4 : i = ds.length := by omega
    subst e4
    rw [List.drop_length] at hc
    unfold dcLoop at hc
    obtain ⟨fr, hc⟩ := ite_ok hc
    have hc1 := congrArg (fun z => z.1.1) (Rs.ok.inj hc)
    have hc3 := congrArg (fun z => z.1.2) (Rs.ok.inj hc)
    have hc2 := congrArg Prod.snd (Rs.ok.inj hc)
    dsimp only at hc1 hc2 hc3
    subst hc1 hc2 hc3
    refine .inl ⟨w2 (List.getElem?_eq_none (Nat.le_refl _)), ?_⟩
    have rr := R.unwipe r2 n.r go2.ff fr0 len2
    refine q (.ref D) F2 H' (n.trans ⟨rr, go2, ?_⟩) (.inr ⟨rfl, D, _, kvs.map (·.2), rfl, n.go.old r.fh hD, FD, HD, .inl ⟨rfl, kvs, rfl, dk, rfl⟩, da⟩)
    apply List.ext_getElem?
    intro j
    have h1 : ((wipeE e2 vs).map (Option.map Ce.kd))[j]? = ((wipeE e1 vs).map (Option.map Ce.kd))[j]? := by rw [sh2]
    rw [List.getElem?_map, List.getElem?_map] at h1 ⊢
    rw [wipeE_get, wipeE_get] at h1
    rw [restE_get e1 e2 len2]
    by_cases hv : j ∈ vs
    · rw [if_pos hv]
    · rw [if_neg hv, if_neg hv] at h1
      rw [if_neg hv]
      exact h1
theorem dc_ok {src : M (List D)} {t : Tg} {c : M Bool} {mk mv : M D} {Q : VK} (to : TgOk t is) (hs : ∀ i ∈ is, i ∈ vs) (h : tN K (mDComp src t vs c mk mv) σ H Q) : tDc (tI K src) (tG K t is) (tT K c) (tF K mk) (tF K mv) vs σ H Q := by
  obtain ⟨G, F, e, cell, e', r, hm, q⟩ := h
  obtain ⟨ds, e1, h1, hm⟩ := bind_ok2 hm
  obtain ⟨⟨⟨xs, ys⟩, e3⟩, h2, hm⟩ := Rs.bind_eq hm
  cases hm
  exact ⟨G, F, e, ds, e1, r, h1, fun J F1 H1 n wk D hD => dc_in to hs r n wk h2 q D hD⟩
end
section
variable {X : Cx} {kx vx tg iter : Expr} {ifs : List Expr} {scope : Scope} {own : List (Str × Nat)} {pos : Pos} {src : M (List D)} {t : Tg} {is : List Nat} {c : M Bool} {mk mv : M D}
theorem pn_dc (hc : X.calm = true) (hN : X.N.Nodup) (hi : PId X tg iter src) (ok : BlkOk X.N X.env.scope scope own) (to : TgOk t is) (hsub : ∀ i ∈ is, i ∈ own.map (·.2))
    (hg : ∀ (s : Shared) (H : Hp) (C : Addr) (cl : List (Str × Addr)) (fp : List Addr), PGd (X.blk s H scope (compEnvC scope cl C X.env) fp) tg t is) (ht : ∀ (s : Shared) (H : Hp) (C : Addr) (cl : List (Str × Addr)) (fp : List Addr), PTsd (X.blk s H scope (compEnvC scope cl C X.env) fp) ifs c)
    (hk : ∀ (s : Shared) (H : Hp) (C : Addr) (cl : List (Str × Addr)) (fp : List Addr), PF (X.blk s H scope (compEnvC scope cl C X.env) fp) kx mk)
    (hv : ∀ (s : Shared) (H : Hp) (C : Addr) (cl : List (Str × Addr)) (fp : List Addr), PF (X.blk s H scope (compEnvC scope cl C X.env) fp) vx mv) (hs : ∀ x, foldedSetIterable iter X.env x = pure x := by intro _; rfl) :
    PN X (.DictComp kx vx [⟨tg, iter, ifs, 0⟩] scope pos) (mDComp src t (own.map (·.2)) c mk mv) :=
  PEimp (pe_dc hc hN hi ok hg ht hk hv hs) fun σ H Q h => dc_ok to hsub h
/-! ### k in d -/
def dinD : D → D → Rs Ce
  | k, .dict t ks _ => if keyOk t k = true then .ok (.f (.bool (dHas ks k))) else .no
  | _, _ => .no
def mDIn (mk : M D) (md : M Hd) : M Ce := fun e => (mk e).bind fun p => (md p.2).bind fun q => (q.1.get q.2).bind fun d => (dinD p.1 d).bind fun c => .ok (c, q.2)
@[simp] theorem mDIn_r (mk : M D) (md : M Hd) (e : En) : mDIn mk md e = (mk e).bind fun p => (md p.2).bind fun q => (q.1.get q.2).bind fun d => (dinD p.1 d).bind fun c => .ok (c, q.2) := Eq.trans rfl rfl
theorem dinD_ok {K : PySem.W.Frag} {mk : M D} {md : M Hd} {σ : L2.St} {H : Hp} {Q : VK} (h : tN K (mDIn mk md) σ H Q) : tDIn (tF K mk) (tH K md) σ H Q := by
  obtain ⟨G, F, e, cc, e', r, hm, q⟩ := h
  obtain ⟨k, e1, h1, hm⟩ := bind_ok2 hm
  obtain ⟨x, e2, h2, hm⟩ := bind_ok2 hm
  obtain ⟨d, h3, hm⟩ := Rs.bind_eq hm
  obtain ⟨c', h4, hm⟩ := Rs.bind_eq hm
  cases hm
  refine ⟨G, F, e, k, e1, r, h1, fun vk F1 H1 n1 hvk => ⟨G, F1, e1, x, _, n1.r, h2, fun vx F2 H2 n2 hvx => ?_⟩⟩
  cases d <;> first
    | (cases h4; done)
    | skip
  rename_i t ks ws
  obtain ⟨hok, h4⟩ := ite_ok h4
  cases h4
  obtain ⟨a, ob, xs, rfl, q1, q2, q3⟩ := (hvx.vw n2.r h3).dict n2.r.fh
  obtain ⟨rr, g1, g2, g3⟩ := dget_data n2.r.fh q1 q2 q3 hok (n2.dn hvk)
  refine ⟨a, rr, rfl, g1, ?_⟩
  rw [g2]
  exact q _ F2 H2 (n1.trans n2) (.inl ⟨_, rfl, .bl _⟩)
theorem pn_dinK {ex ey : Expr} {md : M Hd} {mk : M D} (hu : X.A.units + 1 < cLine) (hk : PF X ex mk) (ho : PH X ey md) (hm : behindInMarks .In ey = false) : PN X (.Compare ex [.In] [ey] pos) (mDIn mk md) := PEimp (pe_cmp (pc_din hu hk ho) hm) fun σ H Q h => dinD_ok h
theorem ptd_dinK {ex ey : Expr} {md : M Hd} {mk : M D} (hu : X.A.units + 1 < cLine) (hk : PF X ex mk) (ho : PH X ey md) (hm : behindInMarks .In ey = false) : PTd X (.Compare ex [.In] [ey] pos) (mBool (mDIn mk md)) :=
  PTimp (pt_cmp (pc_din hu hk ho) hm) fun σ H Q h => dinD_ok (bool_test h)
end
end DL

namespace DL
open PySem L2 PyProof.Rows
/-! ### sorted(ints) -/
def insI (k : Int) : List Int → List Int
  | [] => [k]
  | x :: xs => if k ≤ x then k :: x :: xs else x :: insI k xs
def srtI : List Int → List Int
  | [] => []
  | k :: ks => insI k (srtI ks)
theorem insI_perm (k : Int) : ∀ xs, (insI k xs).Perm (k :: xs)
  | [] => .refl _
  | x :: xs => by
    unfold insI
    split
    · exact .refl _
    · exact ((insI_perm k xs).cons x).trans (.swap k x xs)
theorem srtI_perm : ∀ ks, (srtI ks).Perm ks
  | [] => .refl _
  | k :: ks => (insI_perm k (srtI ks)).trans ((srtI_perm ks).cons k)
theorem insI_pw (k : Int) : ∀ {xs : List Int}, xs.Pairwise (· ≤ ·) → (insI k xs).Pairwise (· ≤ ·)
  | [], _ => by simp [insI]
  | x :: xs, h => by
    obtain ⟨h1, h2⟩ := List.pairwise_cons.mp h
    unfold insI
    split
    · rename_i q
      refine List.pairwise_cons.mpr ⟨fun y hy => ?_, h⟩
      rcases List.mem_cons.mp hy with rfl | hy
      · exact q
      · have := h1 y hy; omega
    · rename_i q
      refine List.pairwise_cons.mpr ⟨fun y hy => ?_, insI_pw k h2⟩
      rcases List.mem_cons.mp ((insI_perm k xs).mem_iff.mp hy) with rfl | hy
      · omega
      · exact h1 y hy
theorem srtI_pw : ∀ ks : List Int, (srtI ks).Pairwise (· ≤ ·)
  | [] => .nil
  | k :: ks => insI_pw k (srtI_pw ks)
theorem leI_uniq : ∀ {xs ys : List Int}, xs.Pairwise (· ≤ ·) → ys.Pairwise (· ≤ ·) → xs.Perm ys → xs = ys
  | [], ys, _, _, h => by rw [List.nil_perm.mp h]
  | x :: xs, [], _, _, h => by cases List.perm_nil.mp h
  | x :: xs, y :: ys, hx, hy, h => by
    obtain ⟨x1, x2⟩ := List.pairwise_cons.mp hx
    obtain ⟨y1, y2⟩ := List.pairwise_cons.mp hy
    have e : x = y := by
      rcases List.mem_cons.mp (h.mem_iff.mp List.mem_cons_self) with a | a
      · exact a
      · rcases List.mem_cons.mp (h.mem_iff.mpr (show y ∈ y :: ys from List.mem_cons_self)) with b | b
        · exact b.symm
        · have := x1 y b; have := y1 x a; omega
    subst e
    rw [leI_uniq x2 y2 (List.perm_cons x |>.mp h)]
def sortedD : List D → Rs Ce
  | [.list ds] => (match intsOf ds with
    | some is => .ok (.l false ((srtI is).map .int))
    | none => .no)
  | _ => .no
@[simp] theorem sortedD_i (is : List Int) : sortedD [.list (is.map .int)] = .ok (.l false ((srtI is).map .int)) := by simp [sortedD]
theorem snd_sorted {K : PySem.W.Frag} : SndL K (rSortedI K) sortedD := fun F H xs ds c Q fh hx hg q => by
  unfold sortedD at hg
  split at hg
  · rename_i ds
    split at hg
    · rename_i is hi
      cases hg
      obtain ⟨x, rfl, h⟩ := hx.one (ds := [])
      obtain ⟨a, vs, rfl, h1, h2⟩ := h.list fh
      rw [intsOf_eq hi] at h2
      rw [h2.ints] at h1
      refine ⟨a, is, rfl, SqL.of h1, fun ns' p hp hs hn => ?_⟩
      have e : ns' = srtI is := leI_uniq hs (srtI_pw is) (hp.trans (srtI_perm is).symm)
      subst e
      exact q _ F _ (Go.newO fh hn) (.inr ⟨rfl, p, _, _, rfl, hn, ex_none fh hn, upd_same, rfl, dnA_ints _⟩)
    · cases hg
  · cases hg
/-! ### range(i, j, c), c above nought -/
def rgC (lo c : Int) (n : Nat) : List D := (List.range n).map fun (i : Nat) => D.int (lo + (i : Int) * c)
theorem wk_rngC {K : PySem.W.Frag} {F : Hp} (lo c : Int) (n : Nat) : Wk K (Itc lo c n) F (rgC lo c n) := fun i F2 H2 x1 x2 => by
  refine ⟨fun d hi => ?_, fun hi => ?_⟩
  · have hl : i < n := by
      have := (List.getElem?_eq_some_iff.mp hi).1
      simpa [rgC] using this
    refine ⟨hl, fun x H3 y => ?_⟩
    obtain ⟨rfl, rfl⟩ := y
    unfold rgC at hi
    rw [List.getElem?_map, List.getElem?_range hl] at hi
    cases hi
    exact ⟨F2, Go.refl x2, .int _⟩
  · have := List.getElem?_eq_none_iff.mp hi
    show n ≤ i
    simpa [rgC] using this
def mRng3 (ma : M (List D)) : M (List D) := fun e => (ma e).bind fun p => match p.1 with
  | [.int i, .int j, .int c] => if 0 < c ∧ c < 1073741824 ∧ 0 ≤ i ∧ i < j ∧ j < 2 ^ 60 then .ok (rgC i c ((j - i - 1) / c + 1).toNat, p.2) else .no
  | _ => .no
@[simp] theorem mRng3_r (ma : M (List D)) (e : En) : mRng3 ma e = (ma e).bind fun p => match p.1 with
  | [.int i, .int j, .int c] => if 0 < c ∧ c < 1073741824 ∧ 0 ≤ i ∧ i < j ∧ j < 2 ^ 60 then .ok (rgC i c ((j - i - 1) / c + 1).toNat, p.2) else .no
  | _ => .no := Eq.trans rfl rfl
section
variable {X : Cx} {ex ey ez tg : Expr} {pos : Pos}
theorem pid_rng3 {p : Pos} {ma : M (List D)} (hg : Gl X "range") (hm : X.mg "range" = none) (ha : PAd X [ex, ey, ez] ma) (hs : starEach [ex, ey, ez] X.env = (false, eval ex X.env) :: starEach [ey, ez] X.env := by rfl) (hpl : (backTo pos (starEach [ey, ez] X.env)).any (·.1) = false := by rfl) : PId X tg (.Call (.Name "range" p) [ex, ey, ez] [] pos) (mRng3 ma) :=
  PIimp (pi_range3 hg hm ha hs hpl) fun σ H Q ⟨G, F, e, ds, e', r, hm, q⟩ => by
    obtain ⟨d, e1, h1, hm⟩ := bind_ok2 hm
    simp only at hm
    split at hm
    · rename_i i j c
      obtain ⟨⟨c0, c1, i0, ij, j1⟩, hm⟩ := ite_ok hm
      cases hm
      refine ⟨G, F, e, _, _, r, h1, fun vs F' H' n' hd => ?_⟩
      cases hd with
      | cons g t =>
        cases t with
        | cons g2 t =>
          cases t with
          | cons g3 t =>
            cases t
            rw [g.int_inv, g2.int_inv, g3.int_inv]
            have sz : Builtin.Range.rangeSize i j c = (((j - i - 1) / c + 1).toNat : Int) := by
              unfold Builtin.Range.rangeSize
              rw [if_pos c0, if_pos ij, Int.toNat_of_nonneg]
              have := Int.ediv_nonneg (show 0 ≤ j - i - 1 by omega) (show 0 ≤ c by omega)
              omega
            refine ⟨i, j, c, _, rfl, ⟨by omega, by omega, ?_, sz⟩, q _ F' H' n' (wk_rngC i c _)⟩
            have n0 := Int.ediv_nonneg (show 0 ≤ j - i - 1 by omega) (show 0 ≤ c by omega)
            have n1 : (j - i - 1) / c ≤ j - i - 1 := Int.ediv_le_self _ (by omega)
            unfold Builtin.Range.small
            rw [sz]
            simp only [Builtin.Range.rangeFitsLong, Bool.and_eq_true, Bool.or_eq_true, decide_eq_true_eq, beq_iff_eq, if_pos c0]
            omega
    · cases hm
end
end DL

namespace DL
open PySem L2 PyProof.Rows
/-! ### {k: v for k in d}, d a dict of one's own (locked meanwhile) -/
def dl (F : Hp) (a : Addr) : Hp := fun b => if b = a then none else F b
theorem dl_same {F : Hp} {a : Addr} : dl F a a = none := if_pos rfl
theorem dl_ne {F : Hp} {a b : Addr} (h : b ≠ a) : dl F a b = F b := if_neg h
section
variable {K : PySem.W.Frag} {F : Hp} {a : Addr} {od : Obj} {kvs : List (Key × V)}
theorem sqL_dl {b : Addr} {xs : List V} (hF : F a = some (.frz od (.dK kvs))) (h : SqL K F b xs) : SqL K (dl F a) b xs := by
  rcases h with h | h
  · have hb : b ≠ a := fun z => by
      subst z
      rcases h with h | ⟨o, h⟩
      · rw [hF] at h; cases h
      · rw [hF] at h; cases h
    refine .inl ?_
    rcases h with h | ⟨o, h⟩
    · exact .inl (by rw [dl_ne hb]; exact h)
    · exact .inr ⟨o, by rw [dl_ne hb]; exact h⟩
  · exact .inr h
mutual
theorem Dn.dl (hF : F a = some (.frz od (.dK kvs))) : ∀ {v : V} {d : D}, Dn K F v d → Dn K (dl F a) v d
  | _, _, .non => .non
  | _, _, .bl b => .bl b
  | _, _, .int i => .int i
  | _, _, .str x => .str x
  | _, _, .lst (a := b) h ha => .lst (by rw [dl_ne (fun z => by subst z; rw [hF] at h; cases h)]; exact h) (DnA.dl hF ha)
  | _, _, .ro h ha => .ro (sqL_dl hF h) (DnA.dl hF ha)
  | _, _, .tup (a := b) h ha => .tup (h.elim (fun h => .inl (by rw [dl_ne (fun z => by subst z; rw [hF] at h; cases h)]; exact h)) .inr) (DnA.dl hF ha)
  | _, _, .tupW (a := b) h ha => .tupW (by rw [dl_ne (fun z => by subst z; rw [hF] at h; cases h)]; exact h) (DnA.dl hF ha)
  | _, _, .dic (a := b) h hk ha => .dic (by
      rw [dl_ne (fun z => by
        subst z
        rw [hF] at h
        cases h
        rcases hk with ⟨_, _, z, _⟩ | ⟨_, _, z, _⟩ <;> cases z)]
      exact h) hk (DnA.dl hF ha)
theorem DnA.dl (hF : F a = some (.frz od (.dK kvs))) : ∀ {vs : List V} {ds : List D}, DnA K F vs ds → DnA K (dl F a) vs ds
  | _, _, .nil => .nil
  | _, _, .cons h ha => .cons (Dn.dl hF h) (DnA.dl hF ha)
end
end
theorem wk_keys {K : PySem.W.Frag} {F : Hp} {a : Addr} {od : Obj} {kvs : List (Key × V)} (hF : F a = some (.frz od (.dK kvs))) : Wk K (Itk a od kvs) F (kvs.map fun p => kD p.1) := fun i F2 H2 x1 x2 => by
  have hH : H2 a = some (.frz od (.dK kvs)) := x2 _ _ (x1 _ _ hF)
  refine ⟨fun d hi => ?_, fun hi => ?_⟩
  · have hl : i < kvs.length := by
      have := (List.getElem?_eq_some_iff.mp hi).1
      simpa using this
    refine ⟨⟨hH, hl⟩, fun x H3 y => ?_⟩
    obtain ⟨rfl, k, v, e1, rfl⟩ := y
    rw [List.getElem?_map, e1] at hi
    cases hi
    refine ⟨F2, Go.refl x2, ?_⟩
    cases k with
    | inl i => exact .int i
    | inr s => exact .str s
  · have := List.getElem?_eq_none_iff.mp hi
    exact ⟨hH, by simpa using this⟩
noncomputable def mDKeys (i : Nat) (t : Tg) (vs : List Nat) (c : M Bool) (mk mv : M D) : M Ce := fun e => match e[i]? with
  | some (some (.k false false ks ws)) => if vs.contains i = true then .no else (dcLoop t vs c mk mv ks [] [] (e.set i none)).bind fun q => .ok (.k false false q.1.1 q.1.2, (restE (e.set i none) q.2 vs).set i (some (.k false false ks ws)))
  | _ => .no
section
variable {K : PySem.W.Frag} {G : Bs} {F H F1 H1 : Hp} {σ : L2.St} {e e1 e3 : En} {vs is : List Nat} {i : Nat}
theorem R.hide (r : R K G F H σ e) (hio : ioAt e i = false) : R K G F H σ (e.set i none) := by
  have at2 : ∀ (j : Nat) (c' : Ce), (e.set i none)[j]? = some (some c') → j ≠ i ∧ e[j]? = some (some c') := fun j c' h => by
    by_cases hj : j = i
    · subst hj
      by_cases hl : j < e.length
      · rw [List.getElem?_set_self hl] at h
        cases h
      · rw [List.getElem?_eq_none (by simpa using Nat.le_of_not_lt hl)] at h
        cases h
    · rw [List.getElem?_set_ne (Ne.symm hj)] at h
      exact ⟨hj, h⟩
  refine ⟨r.go, r.ba, fun j c' h => r.at_ j c' (at2 j c' h).2, fun j k c1 c2 b hjk g1 g2 o1 o2 => r.sep j k c1 c2 b hjk (at2 _ _ g1).2 (at2 _ _ g2).2 o1 o2, fun p hp => ?_, by simpa using r.len⟩
  obtain ⟨g1, c', g2, g3⟩ := r.io p hp
  have hne : p.1 ≠ i := fun z => by
    unfold ioAt at hio
    rw [← z, g2] at hio
    have hio : c'.io = false := hio
    rw [hio] at g3
    cases g3
  exact ⟨g1, c', by rw [List.getElem?_set_ne (Ne.symm hne)]; exact g2, g3⟩
theorem R.back {a : Addr} {od : Obj} {kvs : List (Key × V)} (r : R K G F H σ e) (hF : F a = some (.frz od (.dK kvs))) (hG : G.H a = none) : R K G (dl F a) (upd H a (.dK kvs)) σ e := by
  have gF := ex_none r.ba hG
  refine ⟨⟨fun b o hb => ?_, fun b o hb hn => ?_, fun b o hb => ?_, fun b h1 h2 => ?_⟩, r.ba, fun j c hj => ?_, r.sep, r.io, r.len⟩
  · have hne : b ≠ a := ne_of_none hb gF
    rw [dl_ne hne]
    exact r.go.ff b o hb
  · have hne : b ≠ a := ne_of_none hb hG
    rw [upd_ne hne]
    exact r.go.hh b o hb hn
  · have hne : b ≠ a := fun z => by subst z; rw [dl_same] at hb; cases hb
    rw [dl_ne hne] at hb
    rw [upd_ne hne]
    exact r.fh b o hb
  · have hne : b ≠ a := fun z => by subst z; rw [hG] at h2; cases h2
    obtain ⟨p, q⟩ := r.go.st b h1 h2
    exact ⟨by rw [dl_ne hne]; exact p, by rw [upd_ne hne]; exact q⟩
  · obtain ⟨v, g1, g2⟩ := r.at_ j c hj
    refine ⟨v, g1, ?_⟩
    rcases g2 with ⟨d, rfl, hd⟩ | ⟨b, o, xs, rfl, q1, q2, q3, q4, q5, q6⟩
    · exact .inl ⟨d, rfl, hd.dl hF⟩
    · have hne : b ≠ a := fun z => by subst z; rw [hF] at q1; cases q1
      exact .inr ⟨b, o, xs, rfl, by rw [dl_ne hne]; exact q1, by rw [upd_ne hne]; exact q2, q3, q4.dl hF, q5, q6⟩
theorem dkeys_ok {t : Tg} {c : M Bool} {mk mv : M D} {Q : VK} (to : TgOk t is) (hs : ∀ i ∈ is, i ∈ vs) (h : tN K (mDKeys i t vs c mk mv) σ H Q) : tLockE (tDc (iKeys (tVar i)) (tG K t is) (tT K c) (tF K mk) (tF K mv) vs) σ H Q := by
  obtain ⟨G, F, e, cell, e', r, hm, q⟩ := h
  unfold mDKeys at hm
  split at hm
  · rename_i ks ws he
    by_cases hvi : vs.contains i = true
    · rw [if_pos hvi] at hm; cases hm
    rw [if_neg hvi] at hm
    obtain ⟨⟨⟨xs, ys⟩, e3⟩, h2, hm⟩ := Rs.bind_eq hm
    cases hm
    have hnv : i ∉ vs := fun z => hvi (by simpa using z)
    obtain ⟨v0, s0, a0⟩ := r.at_ i _ he
    obtain ⟨a, o, zs, rfl, q1, q2, q3, q4, _, q6⟩ := a0.own rfl
    have hG : G.H a = none := q6 rfl
    have hioe : ioAt e i = false := by unfold ioAt; rw [he]; rfl
    have hl : i < e.length := (List.getElem?_eq_some_iff.mp he).1
    obtain ⟨kvs, rfl, k1, k2⟩ : ∃ kvs : List (Key × V), o = .dK kvs ∧ kvs.map (fun p => kD p.1) = ks ∧ kvs.map (·.2) = zs := by
      rcases q3 with ⟨_, kvs, h1, h2, h3⟩ | ⟨z, _⟩
      · exact ⟨kvs, h1, h2, h3⟩
      · cases z
    have lva : Lv σ e a := ⟨i, _, he, rfl, s0⟩
    have nlv : ¬ Lv σ (e.set i none) a := fun ⟨j, c', g1, g2, g3⟩ => by
      by_cases hj : j = i
      · subst hj
        rw [List.getElem?_set_self hl] at g1
        cases g1
      · rw [List.getElem?_set_ne (Ne.symm hj)] at g1
        exact r.sep i j _ c' a (Ne.symm hj) he g1 rfl g2 s0 g3
    refine ⟨a, .dK kvs, q2, trivial, fun od => ?_⟩
    have r1 := (r.hide hioe).other (o := .frz od (.dK kvs)) q1 (by rw [q2]; rfl) nlv hG
    have r2 := r1.frz q1 upd_same nlv hG
    have hF1 : (upd F a (.frz od (.dK kvs))) a = some (.frz od (.dK kvs)) := upd_same
    rw [← k1] at h2
    refine ⟨_, s0, a, od, rfl, .inl ⟨kvs, upd_same, fun D hD => ?_⟩⟩
    refine dc_in (Q := fun v H' => H' a = some (.frz od (.dK kvs)) ∧ Q v (upd H' a (.dK kvs))) to hs r2 (Nx.refl r2) (wk_keys hF1) h2 (fun v F' H' n hn => ?_) D hD
    have hF' : F' a = some (.frz od (.dK kvs)) := n.go.ff _ _ hF1
    refine ⟨n.r.fh _ _ hF', q v (dl F' a) (upd H' a (.dK kvs)) ?_ ?_⟩
    · have rb := n.r.back hF' hG
      have len' : (restE (e.set i none) e3 vs).length = e.length := by
        have := congrArg List.length n.sh
        simpa using this
      have hgi : (restE (e.set i none) e3 vs)[i]? = some none := by
        have h1 := congrArg (fun l => l[i]?) n.sh
        simp only [List.getElem?_map] at h1
        rw [List.getElem?_set_self hl] at h1
        cases g : (restE (e.set i none) e3 vs)[i]? with
        | none => rw [g] at h1; cases h1
        | some oc =>
          cases oc with
          | none => rfl
          | some cc => rw [g] at h1; cases h1
      have nlv2 : ¬ Lv σ (restE (e.set i none) e3 vs) a := fun z => by
        have := (n.r.lv z).1
        rw [hF'] at this
        cases this
      have ff : ∀ b u, F b = some u → dl F' a b = some u := fun b u hb => by
        have hne : b ≠ a := ne_of_none hb q1
        rw [dl_ne hne]
        exact n.go.ff b u (by rw [upd_ne hne]; exact hb)
      have rs := rb.set (i := i) (c := .k false false ks ws) (v := .ref a) (by unfold ioAt; rw [hgi]) (.inr ⟨rfl, a, _, kvs.map (·.2), rfl, hG, dl_same, upd_same, nlv2, .inl ⟨rfl, kvs, rfl, k1, rfl⟩, by rw [k2]; exact q4.mono ff⟩)
      have σs : σ.set i (some (.ref a)) = σ := by
        apply List.ext_getElem?
        intro j
        by_cases hj : j = i
        · subst hj
          rw [List.getElem?_set_self (List.getElem?_eq_some_iff.mp s0).1, s0]
        · rw [List.getElem?_set_ne (Ne.symm hj)]
      rw [σs] at rs
      refine ⟨rs, ⟨ff, fun b u hb hn => ?_, rs.fh, fun b h1 h2 => ?_⟩, ?_⟩
      · have hne : b ≠ a := fun z => hn (z ▸ lva)
        rw [upd_ne hne]
        refine n.go.hh b u (by rw [upd_ne hne]; exact hb) fun ⟨j, c', g1, g2, g3⟩ => hn ⟨j, c', ?_, g2, g3⟩
        by_cases hj : j = i
        · subst hj
          rw [List.getElem?_set_self hl] at g1
          cases g1
        · rw [List.getElem?_set_ne (Ne.symm hj)] at g1
          exact g1
      · by_cases hne : b = a
        · subst hne
          exact ⟨dl_same, by rw [upd_same]; rfl⟩
        · obtain ⟨p, p2⟩ := n.go.st b (by rw [upd_ne hne]; exact h1) (by rw [upd_ne hne]; exact h2)
          exact ⟨by rw [dl_ne hne]; exact p, by rw [upd_ne hne]; exact p2⟩
      · apply List.ext_getElem?
        intro j
        rw [List.getElem?_map, List.getElem?_map]
        by_cases hj : j = i
        · subst hj
          rw [List.getElem?_set_self (by rw [len']; exact hl), he]

        · rw [List.getElem?_set_ne (Ne.symm hj)]
          have h1 := congrArg (fun l => l[j]?) n.sh
          simp only [List.getElem?_map] at h1
          rw [List.getElem?_set_ne (Ne.symm hj)] at h1
          exact h1
    · rcases hn with ⟨d, z, _⟩ | ⟨_, D', o', xs', rfl, g1, g2, g3, g4, g5⟩
      · cases z
      · have hne : D' ≠ a := fun z => by subst z; rw [hF'] at g2; cases g2
        rw [upd_ne hne] at g1
        exact .inr ⟨rfl, D', o', xs', rfl, g1, by rw [dl_ne hne]; exact g2, by rw [upd_ne hne]; exact g3, g4, g5.dl hF'⟩
  · cases hm
end
section
variable {X : Cx} {kx vx tg iter : Expr} {ifs : List Expr} {scope : Scope} {own : List (Str × Nat)} {pos : Pos} {t : Tg} {is : List Nat} {c : M Bool} {mk mv : M D} {i : Nat}
theorem pn_dkeys (hc : X.calm = true) (hN : X.N.Nodup) (hi : PE X iter (tVar i)) (ok : BlkOk X.N X.env.scope scope own) (to : TgOk t is) (hsub : ∀ i ∈ is, i ∈ own.map (·.2))
    (hg : ∀ (s : Shared) (H : Hp) (C : Addr) (cl : List (Str × Addr)) (fp : List Addr), PGd (X.blk s H scope (compEnvC scope cl C X.env) fp) tg t is) (ht : ∀ (s : Shared) (H : Hp) (C : Addr) (cl : List (Str × Addr)) (fp : List Addr), PTsd (X.blk s H scope (compEnvC scope cl C X.env) fp) ifs c)
    (hk : ∀ (s : Shared) (H : Hp) (C : Addr) (cl : List (Str × Addr)) (fp : List Addr), PF (X.blk s H scope (compEnvC scope cl C X.env) fp) kx mk)
    (hv : ∀ (s : Shared) (H : Hp) (C : Addr) (cl : List (Str × Addr)) (fp : List Addr), PF (X.blk s H scope (compEnvC scope cl C X.env) fp) vx mv) (hs : ∀ x, foldedSetIterable iter X.env x = pure x := by intro _; rfl) :
    PN X (.DictComp kx vx [⟨tg, iter, ifs, 0⟩] scope pos) (mDKeys i t (own.map (·.2)) c mk mv) :=
  PEimp (pe_lock (pe_dc hc hN (pi_keys hi) ok hg ht hk hv hs)) fun σ H Q h => dkeys_ok to hsub h
end
end DL

namespace DL
open PySem L2 PyProof.Rows
section
variable {X : Cx}
theorem ps_setDc {i : Nat} {y : Str} {py : Pos} {kx vx tg iter : Expr} {ifs : List Expr} {scope : Scope} {own : List (Str × Nat)} {pos spos : Pos} {wi : TI} {g : TG} {tt : TT} {tk tv : TE} (hc : X.calm = true) (hN : X.N.Nodup) (hy : X.N[i]? = some y) (hyl : X.env.scope.names.lookup y = some .local)
    (hsw : swapsWith (.DictComp kx vx [⟨tg, iter, ifs, 0⟩] scope pos) (some (.Name y py)) spos.line X.env = pure true) (hi : PI X tg iter wi) (ok : BlkOk X.N X.env.scope scope own)
    (hg : ∀ (s : Shared) (H : Hp) (C : Addr) (cl : List (Str × Addr)) (fp : List Addr), PG (X.blk s H scope (compEnvC scope cl C X.env) fp) tg g) (ht : ∀ (s : Shared) (H : Hp) (C : Addr) (cl : List (Str × Addr)) (fp : List Addr), PTs (X.blk s H scope (compEnvC scope cl C X.env) fp) ifs tt)
    (hk : ∀ (s : Shared) (H : Hp) (C : Addr) (cl : List (Str × Addr)) (fp : List Addr), PE (X.blk s H scope (compEnvC scope cl C X.env) fp) kx tk)
    (he : ∀ (s : Shared) (H : Hp) (C : Addr) (cl : List (Str × Addr)) (fp : List Addr), PE (X.blk s H scope (compEnvC scope cl C X.env) fp) vx tv) (hs : ∀ x, foldedSetIterable iter X.env x = pure x := by intro _; rfl) :
    PS X (.Assign [.Name y py] (.DictComp kx vx [⟨tg, iter, ifs, 0⟩] scope pos) spos) (tAsg (tDc wi g tt tk tv (own.map (·.2))) (gName i)) := by
  refine ⟨fun pins s σ H D I h => ?_⟩
  rw [exec_Assign_Name_used _ _ _ _ hsw]
  refine wpAny_bind (wpAny_standAt (wpAny_bind ?_))
  show wpAny _ X.A (do let _ ← comprehension (.DictComp kx vx [⟨tg, iter, ifs, 0⟩] scope pos) scope X.env (firstIterPos [⟨tg, iter, ifs, 0⟩] pos) newDict false (eval iter X.env) (some (assign (.Name y py) X.env))) _ _ s
  have h : tDc wi g tt tk tv (own.map (·.2)) σ H (fun x H1 => gName i x σ H1 D.nx) := h
  refine wpAny_bind (thn (dc_core (Qf := fun _ s' => SP X pins D .next s') hc hN I hi ok hg ht hk he hs h fun L C s' m H' I' q hn f => ?_) fun _ s' hq => wpAny_pure (wpAny_pure hq))
  show wpAny _ _ (assign (.Name y py) X.env (.ref L)) _ _ _
  refine wpAny_assign_Name (store_ok2 (v := V.ref L) I' hN hy (.inl hyl) rfl (fun s2 I2 ⟨a, sb, ha⟩ => ?_) (.inr hyl))
  obtain ⟨f0, f1, f2, f3, f4, f5⟩ := f
  have haC : C ≠ a := by
    rcases ha with z | z
    · rw [z]; exact f1
    · exact fun e => f4 y a z e.symm
  refine ⟨m, hn.sameBut sb haC, fun h3 sb3 => ?_⟩
  exact ⟨_, H', I2.turned (t' := s2.toks) (fun b o hb e => (sb3.2 b hb).trans e) f0 f1 f3 f4 f5, q⟩
theorem sw_trueD {kx vx : Expr} {gs : List Comprehension} {scope : Scope} {pos py : Pos} {y : Str} {l : Nat} {env : Env} (hk : env.scope.kind = .function) (hy : env.scope.names.lookup y = some .local) (hl : (py.line == pos.line) = true)
    (ha : (scope.names.any fun (n, k) => n == y && (k == .local || k == .cell)) = false) : swapsWith (.DictComp kx vx gs scope pos) (some (.Name y py)) l env = pure true := by
  have ky : env.kindOf y = some .local := hy
  have hb : env.blockKind = .function := by unfold Env.blockKind; rw [hk]; rfl
  unfold swapsWith
  simp only [hb, ky, ha, Expr.pos, hl]
  rfl
end
section
variable {K : PySem.W.Frag} {σ : L2.St} {H : Hp}
theorem mz_ok {m : M Ce} {Q : VK} (h2 : tF K (mZ m) σ H Q) : tN K m σ H Q := by
  obtain ⟨G, F, e, d, e', r, hm, q⟩ := h2
  obtain ⟨c, e1, h1, h2⟩ := bind_ok2 hm
  cases h2
  refine ⟨G, F, e, c, _, r, h1, fun v F' H' n hn => ?_⟩
  obtain ⟨F2, n2, _, hd⟩ := hn.frz r n
  exact q v F2 H' n2 hd
theorem lock_asg {t : TE} {i : Nat} {D : L2.Ends} (h : tLockE t σ H (fun x H1 => gName i x σ H1 D.nx)) : tLock (tAsg t (gName i)) D σ H := by
  obtain ⟨d, u, h1, h2, h3⟩ := h
  exact ⟨d, u, h1, h2, fun od => h3 od⟩
end
section
variable {X : Cx} {kx vx tg iter : Expr} {ifs : List Expr} {scope : Scope} {own : List (Str × Nat)} {pos spos py : Pos} {src : M (List D)} {t : Tg} {is : List Nat} {c : M Bool} {mk mv : M D} {i j : Nat} {y : Str}
theorem pds_setDc (hc : X.calm = true) (hN : X.N.Nodup) (hy : X.N[i]? = some y) (hyl : X.env.scope.names.lookup y = some .local) (hsw : swapsWith (.DictComp kx vx [⟨tg, iter, ifs, 0⟩] scope pos) (some (.Name y py)) spos.line X.env = pure true)
    (hi : PId X tg iter src) (ok : BlkOk X.N X.env.scope scope own) (to : TgOk t is) (hsub : ∀ i ∈ is, i ∈ own.map (·.2))
    (hg : ∀ (s : Shared) (H : Hp) (C : Addr) (cl : List (Str × Addr)) (fp : List Addr), PGd (X.blk s H scope (compEnvC scope cl C X.env) fp) tg t is) (ht : ∀ (s : Shared) (H : Hp) (C : Addr) (cl : List (Str × Addr)) (fp : List Addr), PTsd (X.blk s H scope (compEnvC scope cl C X.env) fp) ifs c)
    (hk : ∀ (s : Shared) (H : Hp) (C : Addr) (cl : List (Str × Addr)) (fp : List Addr), PF (X.blk s H scope (compEnvC scope cl C X.env) fp) kx mk)
    (hv : ∀ (s : Shared) (H : Hp) (C : Addr) (cl : List (Str × Addr)) (fp : List Addr), PF (X.blk s H scope (compEnvC scope cl C X.env) fp) vx mv) (hs : ∀ x, foldedSetIterable iter X.env x = pure x := by intro _; rfl) :
    PDS X (.Assign [.Name y py] (.DictComp kx vx [⟨tg, iter, ifs, 0⟩] scope pos) spos) (sAsg i (mDComp src t (own.map (·.2)) c mk mv)) :=
  PSimp (ps_setDc hc hN hy hyl hsw hi ok hg ht hk hv hs) fun E σ H h => dc_ok to hsub (asg_ok h)
theorem pds_setDcF (hc : X.calm = true) (hN : X.N.Nodup) (hy : X.N[i]? = some y) (hyl : X.env.scope.names.lookup y = some .local) (hsw : swapsWith (.DictComp kx vx [⟨tg, iter, ifs, 0⟩] scope pos) (some (.Name y py)) spos.line X.env = pure true)
    (hi : PId X tg iter src) (ok : BlkOk X.N X.env.scope scope own) (to : TgOk t is) (hsub : ∀ i ∈ is, i ∈ own.map (·.2))
    (hg : ∀ (s : Shared) (H : Hp) (C : Addr) (cl : List (Str × Addr)) (fp : List Addr), PGd (X.blk s H scope (compEnvC scope cl C X.env) fp) tg t is) (ht : ∀ (s : Shared) (H : Hp) (C : Addr) (cl : List (Str × Addr)) (fp : List Addr), PTsd (X.blk s H scope (compEnvC scope cl C X.env) fp) ifs c)
    (hk : ∀ (s : Shared) (H : Hp) (C : Addr) (cl : List (Str × Addr)) (fp : List Addr), PF (X.blk s H scope (compEnvC scope cl C X.env) fp) kx mk)
    (hv : ∀ (s : Shared) (H : Hp) (C : Addr) (cl : List (Str × Addr)) (fp : List Addr), PF (X.blk s H scope (compEnvC scope cl C X.env) fp) vx mv) (hs : ∀ x, foldedSetIterable iter X.env x = pure x := by intro _; rfl) :
    PDS X (.Assign [.Name y py] (.DictComp kx vx [⟨tg, iter, ifs, 0⟩] scope pos) spos) (sAsgF i (mZ (mDComp src t (own.map (·.2)) c mk mv))) :=
  PSimp (ps_setDc hc hN hy hyl hsw hi ok hg ht hk hv hs) fun E σ H h => dc_ok to hsub (mz_ok (asgF_ok h))
theorem pds_setDk (hc : X.calm = true) (hN : X.N.Nodup) (hy : X.N[i]? = some y) (hyl : X.env.scope.names.lookup y = some .local) (hsw : swapsWith (.DictComp kx vx [⟨tg, iter, ifs, 0⟩] scope pos) (some (.Name y py)) spos.line X.env = pure true)
    (hi : PE X iter (tVar j)) (ok : BlkOk X.N X.env.scope scope own) (to : TgOk t is) (hsub : ∀ i ∈ is, i ∈ own.map (·.2))
    (hg : ∀ (s : Shared) (H : Hp) (C : Addr) (cl : List (Str × Addr)) (fp : List Addr), PGd (X.blk s H scope (compEnvC scope cl C X.env) fp) tg t is) (ht : ∀ (s : Shared) (H : Hp) (C : Addr) (cl : List (Str × Addr)) (fp : List Addr), PTsd (X.blk s H scope (compEnvC scope cl C X.env) fp) ifs c)
    (hk : ∀ (s : Shared) (H : Hp) (C : Addr) (cl : List (Str × Addr)) (fp : List Addr), PF (X.blk s H scope (compEnvC scope cl C X.env) fp) kx mk)
    (hv : ∀ (s : Shared) (H : Hp) (C : Addr) (cl : List (Str × Addr)) (fp : List Addr), PF (X.blk s H scope (compEnvC scope cl C X.env) fp) vx mv) (hs : ∀ x, foldedSetIterable iter X.env x = pure x := by intro _; rfl) :
    PDS X (.Assign [.Name y py] (.DictComp kx vx [⟨tg, iter, ifs, 0⟩] scope pos) spos) (sAsg i (mDKeys j t (own.map (·.2)) c mk mv)) :=
  PSimp (ps_lock (ps_setDc hc hN hy hyl hsw (pi_keys hi) ok hg ht hk hv hs)) fun E σ H h => lock_asg (dkeys_ok to hsub (asg_ok h))
theorem pds_setDkF (hc : X.calm = true) (hN : X.N.Nodup) (hy : X.N[i]? = some y) (hyl : X.env.scope.names.lookup y = some .local) (hsw : swapsWith (.DictComp kx vx [⟨tg, iter, ifs, 0⟩] scope pos) (some (.Name y py)) spos.line X.env = pure true)
    (hi : PE X iter (tVar j)) (ok : BlkOk X.N X.env.scope scope own) (to : TgOk t is) (hsub : ∀ i ∈ is, i ∈ own.map (·.2))
    (hg : ∀ (s : Shared) (H : Hp) (C : Addr) (cl : List (Str × Addr)) (fp : List Addr), PGd (X.blk s H scope (compEnvC scope cl C X.env) fp) tg t is) (ht : ∀ (s : Shared) (H : Hp) (C : Addr) (cl : List (Str × Addr)) (fp : List Addr), PTsd (X.blk s H scope (compEnvC scope cl C X.env) fp) ifs c)
    (hk : ∀ (s : Shared) (H : Hp) (C : Addr) (cl : List (Str × Addr)) (fp : List Addr), PF (X.blk s H scope (compEnvC scope cl C X.env) fp) kx mk)
    (hv : ∀ (s : Shared) (H : Hp) (C : Addr) (cl : List (Str × Addr)) (fp : List Addr), PF (X.blk s H scope (compEnvC scope cl C X.env) fp) vx mv) (hs : ∀ x, foldedSetIterable iter X.env x = pure x := by intro _; rfl) :
    PDS X (.Assign [.Name y py] (.DictComp kx vx [⟨tg, iter, ifs, 0⟩] scope pos) spos) (sAsgF i (mZ (mDKeys j t (own.map (·.2)) c mk mv))) :=
  PSimp (ps_lock (ps_setDc hc hN hy hyl hsw (pi_keys hi) ok hg ht hk hv hs)) fun E σ H h => lock_asg (dkeys_ok to hsub (mz_ok (asgF_ok h)))
end
end DL

namespace DL
open PySem L2 PyProof.Rows
/-! ### dict(pairs) of a tuple of pairs -/
/-- the pairs as the heap has them -/
theorem pairs_lay {X : Cx} {pins : List (Addr × Obj)} {σ : L2.St} {H : Hp} {s : Shared} (I : Inv X pins σ H s) : ∀ {ps : List Addr} {kvs : List (Key × V)}, Paired (fun p kv => SqT X.K H p [kV kv.1, kv.2]) ps kvs →
    ∃ prs : List (Value × Value × Key), prs.length = ps.length ∧ KV kvs (prs.map fun z => (z.2.2, z.2.1)) ∧ ∀ (j : Nat) (z : Value × Value × Key), prs[j]? = some z → ∃ b, ps[j]? = some b ∧ PairAt s.heap b z.1 z.2.1 ∧ keyIs z.2.2 z.1 = true := by
  intro ps kvs h
  induction h with
  | nil => exact ⟨[], rfl, .nil, fun j z e => by simp at e⟩
  | @cons p kv ps kvs h t ih =>
    obtain ⟨prs, q1, q2, q3⟩ := ih
    obtain ⟨its, rv, ⟨o, e1, e2, n, e3⟩, _⟩ := I.tuple h
    obtain ⟨u, y, rfl, ru, ry⟩ := vals2 rv
    refine ⟨(u, y, kv.1) :: prs, congrArg Nat.succ q1, .cons ⟨rfl, ry⟩ q2, fun j z hj => ?_⟩
    match j with
    | 0 =>
      cases hj
      exact ⟨p, rfl, .inl ⟨o, e1, e2, n, e3⟩, kV_is (P := X.prog) (w := X.w) ru⟩
    | j + 1 => exact q3 j z hj
def rDictPT (K : PySem.W.Frag) : List V → Hp → VK → Prop := fun xs H Q => ∃ (a : Addr) (its : List Value) (ps : List Addr) (kvs : List (Key × V)), xs = [.ref a] ∧ TupF K H a its (ps.map V.ref) ∧ Paired (fun p kv => SqT K H p [kV kv.1, kv.2]) ps kvs ∧
    ∀ p, H p = none → Q (.ref p) (upd H p (.dK (mergeK [] kvs)))
theorem call_dictPT {X : Cx} (hc : X.calm = true) : CallR X (.type "dict") (rDictPT X.K) := fun pins s σ H xs us Q I r h => by
  obtain ⟨a, gi, ps, kvs, e, hq, hp, q⟩ := h
  subst e
  obtain ⟨u, e, ru⟩ := vals1 r
  subst e
  cases ru
  obtain ⟨hg, z0, n, e3⟩ : s.heap.get? a = some (gO gi) ∧ (ps.map V.ref).length ≤ sizeLine ∧ ∃ n, (gO gi).data = .seq (ps.map Value.ref).toArray n := by
    rcases hq with hq | ⟨hk, hz, rv⟩
    · obtain ⟨hg, z0, its, rv, ⟨o, e1, e2, n, e3⟩⟩ := I.hok a _ hq
      have eo : o = gO gi := Option.some.inj (e1.symm.trans hg)
      subst eo
      have ei := refs_at rv
      subst ei
      exact ⟨hg, z0, n, e3⟩
    · have ei := refs_at rv
      subst ei
      exact ⟨I.kIn a _ hk, by rw [rv.length]; exact hz, _, rfl⟩
  obtain ⟨prs, q1, q2, q3⟩ := pairs_lay I hp
  have hd : (gO gi).data = .seq (ps.map Value.ref).toArray n := e3
  rw [List.length_map] at z0
  refine PySem.call_dict_pairs (kvs := prs.map fun z => (z.2.2, z.2.1)) (knd := mixKind X.prog X.w) (PairArg.tuple a (ps.map Value.ref).toArray (fun j => ps.getD j 0) (prs.map fun z => (z.1, z.2.1))) (I.ok.hd hc) ⟨⟨gO gi, n, hg, rfl, rfl, hd⟩, by simp [q1], fun j k v hj => ?_⟩ ⟨by simp, fun i key v hi => ?_⟩ (by simp [q1]; exact z0) fun h' tk hd' k => ?_
  · rw [List.getElem?_map] at hj
    obtain ⟨z, hz, ez⟩ := Option.map_eq_some_iff.mp hj
    cases ez
    obtain ⟨b, hb, pa, _⟩ := q3 j z hz
    have hb' : ps.getD j 0 = b := by rw [List.getD_eq_getElem?_getD, hb]; rfl
    show _ = some (Value.ref (ps.getD j 0)) ∧ PairAt s.heap (ps.getD j 0) _ _
    rw [hb']
    exact ⟨by simp [hb], pa⟩
  · have hi : (prs.map fun z => (z.1, z.2.1))[i]? = some (key, v) := hi
    rw [List.getElem?_map] at hi
    obtain ⟨z, hz, ez⟩ := Option.map_eq_some_iff.mp hi
    cases ez
    obtain ⟨b, hb, _, hk⟩ := q3 i z hz
    exact ⟨z.2.2, by rw [List.getElem?_map, hz]; rfl, hk⟩
  · have hm : (s.heap.objs.size == sysModules) = false := beq_eq_false_iff_ne.mpr (Nat.ne_of_gt I.big)
    have hl : (mergeK [] kvs).length ≤ sizeLine := by
      have h1 := length_mergeK kvs []
      have h2 := q2.length
      rw [List.length_map] at h2
      rw [List.length_nil] at h1
      omega
    exact ⟨.ref s.heap.objs.size, upd H s.heap.objs.size (.dK (mergeK [] kvs)), I.laid (t' := tk) (fun b o hb => k b o (by simp) hb) (Nat.le_refl _) (show ObjOk X.prog X.w _ _ _ (.dK (mergeK [] kvs)) from ⟨hl, hm, _, KV.merge q2 .nil, hd'⟩), rfl, q _ (I.hok.fresh (Nat.le_refl _))⟩
/-! ### dict of a list or a tuple of pairs -/
def dictTD : List D → Rs Ce
  | [.tuple ds] => (match prsD ds with
    | some kvs => if (kvs.map (·.1)).Nodup then .ok (.k false false (kvs.map fun p => kD p.1) (kvs.map (·.2))) else .no
    | none => .no)
  | ds => dictPD ds
def rDictA (K : PySem.W.Frag) : List V → Hp → VK → Prop := fun xs H Q => (∃ (a : Addr) (ps : List Addr) (kvs : List (Key × V)), xs = [.ref a] ∧ SqL K H a (ps.map V.ref) ∧ Paired (fun p kv => SqT K H p [kV kv.1, kv.2]) ps kvs ∧
    ∀ p, H p = none → Q (.ref p) (upd H p (.dK (mergeK [] kvs)))) ∨ rDictPT K xs H Q
theorem call_dictA {X : Cx} (hc : X.calm = true) : CallR X (.type "dict") (rDictA X.K) := (call_dictP hc).or (call_dictPT hc)
theorem snd_dictA {K : PySem.W.Frag} : SndL K (rDictA K) dictTD := fun F H xs ds c Q fh hx hg q => by
  unfold dictTD at hg
  split at hg
  · rename_i ds
    split at hg
    · rename_i kvs hk
      obtain ⟨hn, hg⟩ := ite_ok hg
      cases hg
      obtain ⟨x, rfl, h1⟩ := hx.one (ds := [])
      obtain ⟨_, _, _, _, _, h2⟩ := h1.tuple fh
      obtain ⟨a, its, zs, rfl, g1, g2⟩ := h2.tuple_invS
      obtain ⟨ps, kvv, rfl, q1, q2, q3⟩ := prs_at fh g2 hk
      refine .inr ⟨a, its, ps, kvv, rfl, g1.mono fh, q1, fun p hp => ?_⟩
      rw [merge_nodup kvv [] (by rw [List.nil_append, q2]; exact hn), List.nil_append]
      have e1 : kvv.map (fun p => kD p.1) = kvs.map (fun p => kD p.1) := by
        have := congrArg (List.map kD) q2
        rwa [List.map_map, List.map_map] at this
      exact q _ F _ (Go.newO fh hp) (.inr ⟨rfl, p, _, kvv.map (·.2), rfl, hp, ex_none fh hp, upd_same, .inl ⟨rfl, kvv, rfl, e1, rfl⟩, q3⟩)
    · cases hg
  · exact .inl (snd_dictP F H xs ds c Q fh hx hg q)
end DL

namespace Md
open PySem L2 DL PyProof.Rows
noncomputable def m_law_cell : En → Out :=
  (sSeq (sIf (mBool (m2 ltD (mH (mN (mVar 1))) (mH (mL lenD (aCons (mH (mN (mVar 0))) aNil))))) (sRet (m2 ixD (mH (mN (mVar 0))) (mH (mN (mVar 1))))) sNext)
    (sRet (mN (mC (.int 0)))))
noncomputable def m_law_digits_b1 : En → Out :=
  (sIf (mBool (m2 gtD (mH (mN (mVar 5))) (mH (mN (mC (.int 0)))))) (sSeq (sApp 3 (mZ (m2 modD (mH (mL intD (aCons (mH (mN (mVar 5))) aNil))) (mH (mN (mC (.int 1000)))))))
    (sAsgF 5 (mZ (m2 fdivD (mH (mN (mVar 5))) (mH (mN (mC (.int 1000)))))))) sNext)
noncomputable def m_law_digits_b2 : En → Out :=
  (sSeq (sAsgF 7 (mZ (m2 modD (mH (mL intD (aCons (mH (m2 addD (mH (m2 addD (mH (m2 mulD (mH (mN (mVar 7))) (mH (mN (mC (.int 16807)))))) (mH (m2 mulD (mH (mN (mC (.int 7)))) (mH (mN (mVar 6))))))) (mH (mN (mC (.int 1)))))) aNil))) (mH (mN (mC (.int 2147483647)))))))
    (sApp 3 (mZ (m2 modD (mH (mL intD (aCons (mH (m2 fdivD (mH (mN (mVar 7))) (mH (mN (mC (.int 997)))))) aNil))) (mH (mN (mC (.int 1000))))))))
noncomputable def m_law_digits_b3 (S_law_cell : Sf) : En → Out :=
  (sSeq (sAsgF 5 (mZ (mCall S_law_cell (aCons (aD (mVar 0)) (aCons (aD (mVar 4)) aNil)))))
    (sSeq (sIf (mBool (m2 ltD (mH (mN (mVar 5))) (mH (mN (mC (.int 0)))))) (sAsgF 5 (mZ (m2 subD (mH (mN (mC (.int 1)))) (mH (m2 mulD (mH (mN (mC (.int 2)))) (mH (mN (mVar 5)))))))) sNext)
    (sSeq (sIf (mBool (m2 gtD (mH (mL lenD (aCons (mSl 3) aNil))) (mH (mN (mC (.int 1500)))))) sBreak sNext)
    (sIf (mBool (m2 geD (mH (mN (mVar 5))) (mH (m2 powD (mH (mN (mC (.int 10)))) (mH (mN (mC (.int 18)))))))) (sFor (mRng1 (aCons (mC (.int 60)) aNil)) (tgN 6) m_law_digits_b1) (sSeq (sAsgF 7 (mZ (m2 modD (mH (mL intD (aCons (mH (m2 addD (mH (m2 addD (mH (m2 mulD (mH (mN (mVar 5))) (mH (mN (mC (.int 48271)))))) (mH (m2 mulD (mH (mN (mVar 4))) (mH (mN (mC (.int 69621)))))))) (mH (mN (mC (.int 11)))))) aNil))) (mH (mN (mC (.int 2147483647)))))))
    (sFor (mRng1 (aCons (mC (.int 12)) aNil)) (tgN 6) m_law_digits_b2))))))
noncomputable def m_law_digits (S_law_cell : Sf) : En → Out :=
  (sSeq (sAsg 3 (mLst aNil))
    (sSeq (sFor (mRng2 (aCons (mVar 1) (aCons (mVar 2) aNil))) (tgN 4) (m_law_digits_b3 S_law_cell))
    (sRetS 3)))
noncomputable def m_law_draw : En → Out :=
  (sSeq (sAsgF 2 (mZ (m2 ixD (mSl 0) (mH (mN (mC (.int 1)))))))
    (sSeq (sLPut 0 (mC (.int 1)) (mZ (m2 addD (mH (mN (mVar 2))) (mH (mN (mC (.int 1)))))))
    (sSeq (sIf (mBool (m2 ltD (mH (mN (mVar 2))) (mH (mL lenD (aCons (mH (m2 ixD (mSl 0) (mH (mN (mC (.int 0)))))) aNil))))) (sRet (m2 modD (mH (mL intD (aCons (mH (m2 ixD (mH (m2 ixD (mSl 0) (mH (mN (mC (.int 0)))))) (mH (mN (mVar 2))))) aNil))) (mH (mN (mVar 1))))) sNext)
    (sRet (m2 modD (mH (mL intD (aCons (mH (m2 mulD (mH (mN (mVar 2))) (mH (mN (mC (.int 7)))))) aNil))) (mH (mN (mVar 1))))))))
noncomputable def m_law_like_c1 (S_law_like : Sf) : M Bool :=
  (mNot (mTru (mH (mCall S_law_like (aCons (aD (mZ (m2 ixD (mH (mN (mVar 0))) (mH (mN (mVar 2)))))) (aCons (aD (mZ (m2 ixD (mH (mN (mVar 1))) (mH (mN (mVar 2)))))) aNil))))))
noncomputable def m_law_like_e1 : M D :=
  (mC (.int 1))
noncomputable def m_law_like (S_law_like : Sf) : En → Out :=
  (sSeq (sIf (mTru (mH (mN (mIs "tuple" (mH (mN (mVar 1))))))) (sSeq (sIf (mOr (mNot (mTru (mH (mN (mIs "tuple" (mH (mN (mVar 0)))))))) (mBool (m2 neD (mH (mL lenD (aCons (mH (mN (mVar 0))) aNil))) (mH (mL lenD (aCons (mH (mN (mVar 1))) aNil)))))) (sRet (mN (mC (.bool false)))) sNext)
    (sRet (m2 eqD (mH (mComp (mRng1 (aCons (mZ (mL lenD (aCons (mH (mN (mVar 1))) aNil))) aNil)) (tgN 2) [2] (m_law_like_c1 S_law_like) m_law_like_e1)) (mH (mLst aNil))))) sNext)
    (sSeq (sIf (mBool (m2 isD (mH (mN (mVar 1))) (mH (mN (mC .none))))) (sRet (m2 isD (mH (mN (mVar 0))) (mH (mN (mC .none))))) sNext)
    (sSeq (sIf (mBool (m2 isD (mH (mN (mVar 1))) (mH (mN (mC (.bool true)))))) (sRet (m2 isD (mH (mN (mVar 0))) (mH (mN (mC (.bool true)))))) sNext)
    (sSeq (sIf (mBool (m2 isD (mH (mN (mVar 1))) (mH (mN (mC (.bool false)))))) (sRet (m2 isD (mH (mN (mVar 0))) (mH (mN (mC (.bool false)))))) sNext)
    (sSeq (sIf (mTru (mH (mN (mIs "str" (mH (mN (mVar 1))))))) (sRet (mAndV (mN (mIs "str" (mH (mN (mVar 0))))) (m2 eqD (mH (mJoin (mH (mN (mC (.str "")))) (mH (mLst (aCons (mVar 0) aNil))))) (mH (mN (mVar 1)))))) sNext)
    (sRet (mAndV (mN (mIs "int" (mH (mN (mVar 0))))) (mAndV (mN (mNotV (mN (mIs "bool" (mH (mN (mVar 0))))))) (m2 eqD (mH (mN (mVar 0))) (mH (mN (mVar 1))))))))))))
noncomputable def m_law_number : En → Out :=
  (sRet (mAndV (mN (mIs "int" (mH (mN (mVar 0))))) (mAndV (mN (mNotV (mN (mIs "bool" (mH (mN (mVar 0))))))) (mChain leD leD (mH (mN (mVar 1))) (mH (mN (mVar 0))) (mH (mN (mVar 2)))))))
end Md
namespace Sh
open PySem L2 DL PyProof.Rows Md
/-! ### the laws' own small functions -/
/-- _law_cell -/
noncomputable def S_cell : Sf
  | [.f (.ro xs), .f (.int k)] => if 0 ≤ k then .ok (.f ((xs[k.toNat]?).getD (.int 0)), []) else .no
  | _ => .no
theorem sem_cell : ∀ cs c outs, S_cell cs = .ok (c, outs) → cs.length = 2 ∧ runD 2 m_law_cell cs = .ok (c, outs) := by
  intro cs c outs h
  unfold S_cell at h
  split at h
  · rename_i xs k
    obtain ⟨h1, h⟩ := ite_ok h
    cases h
    refine ⟨rfl, ?_⟩
    by_cases hk : k < (xs.length : Int)
    · have hx : xs[k.toNat]? = some (xs[k.toNat]'(by omega)) := List.getElem?_eq_getElem (by omega)
      simp [runD_r, startE, m_law_cell, hk, hx, ixD_roN h1 hx]
    · have hx : xs[k.toNat]? = none := List.getElem?_eq_none (by omega)
      simp [runD_r, startE, m_law_cell, hk, hx]
  · cases h
/-- the draw behind xs at the place at -/
def dv (xs : List D) (at' many : Int) : Int := match xs[at'.toNat]? with
  | some (.int d) => d % many
  | _ => (at' * 7) % many
theorem dv_nn {xs : List D} {a m : Int} (h : 0 < m) : 0 ≤ dv xs a m := by
  unfold dv
  split <;> exact Int.emod_nonneg _ (by omega)
theorem dv_lt {xs : List D} {a m : Int} (h : 0 < m) : dv xs a m < m := by
  unfold dv
  split <;> exact Int.emod_lt_of_pos _ h
/-- _law_draw -/
noncomputable def S_draw : Sf
  | [.l true [.list xs, .int a], .f (.int m)] => if 0 ≤ a ∧ a < 2 ^ 62 ∧ 0 < m ∧ m < 2 ^ 62 ∧ xs.all D.isI = true then .ok (.f (.int (dv xs a m)), [.l true [.list xs, .int (a + 1)]]) else .no
  | _ => .no
theorem draw_r {xs : List D} {a m : Int} (h : xs.all D.isI = true) (h1 : 0 ≤ a) (h2 : a < 2 ^ 62) (h3 : 0 < m) (h4 : m < 2 ^ 62) : S_draw [.l true [.list xs, .int a], .f (.int m)] = .ok (.f (.int (dv xs a m)), [.l true [.list xs, .int (a + 1)]]) := if_pos ⟨h1, h2, h3, h4, h⟩
theorem sem_draw : ∀ cs c outs, S_draw cs = .ok (c, outs) → cs.length = 2 ∧ runD 3 m_law_draw cs = .ok (c, outs) := by
  intro cs c outs h
  unfold S_draw at h
  split at h
  · rename_i xs a m
    obtain ⟨⟨h1, h2, h3, h4, h5⟩, h⟩ := ite_ok h
    cases h
    refine ⟨rfl, ?_⟩
    by_cases hk : a < (xs.length : Int)
    · have hx : xs[a.toNat]? = some (xs[a.toNat]'(by omega)) := List.getElem?_eq_getElem (by omega)
      have hi : D.isI (xs[a.toNat]'(by omega)) = true := List.all_eq_true.mp h5 _ (List.getElem_mem _)
      generalize xs[a.toNat]'(by omega) = d at hx hi
      cases d <;> simp [D.isI] at hi
      rename_i j
      simp [runD_r, startE, m_law_draw, hk, hx, ixD_lN h1 hx, modD_i h3, dv]
    · have hx : xs[a.toNat]? = none := List.getElem?_eq_none (by omega)
      have hm : MulOk a 7 := mulOk_r' (by decide) (by decide)
      simp [runD_r, startE, m_law_draw, hk, hx, modD_i h3, mulD_i hm, dv]
  · cases h
/-- _law_number -/
noncomputable def S_number : Sf
  | [.f (.int a), .f (.int lo), .f (.int hi)] => .ok (.f (.bool (decide (lo ≤ a) && decide (a ≤ hi))), [])
  | _ => .no
theorem sem_number : ∀ cs c outs, S_number cs = .ok (c, outs) → cs.length = 3 ∧ runD 3 m_law_number cs = .ok (c, outs) := by
  intro cs c outs h
  unfold S_number at h
  split at h
  · cases h
    refine ⟨rfl, ?_⟩
    rename_i a lo hi
    by_cases h1 : lo ≤ a
    · simp [runD_r, startE, m_law_number, h1]
    · simp [runD_r, startE, m_law_number, h1]
  · cases h
end Sh
namespace Sh
open PySem L2 DL PyProof.Rows Md
def eDig (r f l : D) (xs : List D) (a b c d : Option D) : En := [some (.f r), some (.f f), some (.f l), some (.l false xs), a.map .f, b.map .f, c.map .f, d.map .f]
theorem dig_w60 {r f l : D} {a d : Option D} : ∀ (ds xs : List D) (x : Int) (c : Option D), ds.all D.isI = true → xs.all D.isI = true → xs.length + ds.length ≤ 1560 →
    ∃ xs' x' c', loopL (tgN 6) (m_law_digits_b1) ds (eDig r f l xs a (some (.int x)) c d) = .nx (eDig r f l xs' a (some (.int x')) c' d) ∧ xs'.all D.isI = true ∧ xs'.length ≤ 1560
  | [], xs, x, c, _, h, hl => ⟨xs, x, c, rfl, h, by simpa using hl⟩
  | y :: ds, xs, x, c, hd, h, hl => by
    rw [List.all_cons, Bool.and_eq_true] at hd
    simp only [List.length_cons] at hl
    have e1 : tgN 6 y (eDig r f l xs a (some (.int x)) c d) = .ok (eDig r f l xs a (some (.int x)) (some y) d) := tgN_f (a := c) rfl
    have hdv : DivOk (1000 : Int) := divOk_of (n := 10) (by decide) (by decide) (by decide)
    have hlt : xs.length < 16000000 := by omega
    by_cases hx : 0 < x
    · have : m_law_digits_b1 (eDig r f l xs a (some (.int x)) (some y) d) = .nx (eDig r f l (xs ++ [.int (x % 1000)]) a (some (.int (x / 1000))) (some y) d) := by
        simp [m_law_digits_b1, eDig, hx, modD_i, fdivD_i hdv, hlt]
      rw [loop_nx e1 this]
      exact dig_w60 ds _ _ _ hd.2 (allI_app h) (by simp; omega)
    · have : m_law_digits_b1 (eDig r f l xs a (some (.int x)) (some y) d) = .nx (eDig r f l xs a (some (.int x)) (some y) d) := by
        simp [m_law_digits_b1, eDig, hx]
      rw [loop_nx e1 this]
      exact dig_w60 ds _ _ _ hd.2 h (by omega)
theorem dig_w12 {r f l : D} {a b : Option D} : ∀ (ds xs : List D) (x : Int) (c : Option D), ds.all D.isI = true → xs.all D.isI = true → xs.length + ds.length ≤ 1560 →
    ∃ xs' x' c', loopL (tgN 6) (m_law_digits_b2) ds (eDig r f l xs a b c (some (.int x))) = .nx (eDig r f l xs' a b c' (some (.int x'))) ∧ xs'.all D.isI = true ∧ xs'.length ≤ 1560
  | [], xs, x, c, _, h, hl => ⟨xs, x, c, rfl, h, by simpa using hl⟩
  | y :: ds, xs, x, c, hd, h, hl => by
    rw [List.all_cons, Bool.and_eq_true] at hd
    obtain ⟨i, rfl⟩ := isI_int hd.1
    simp only [List.length_cons] at hl
    have e1 : tgN 6 (.int i) (eDig r f l xs a b c (some (.int x))) = .ok (eDig r f l xs a b (some (.int i)) (some (.int x))) := tgN_f (a := c) rfl
    have hdv : DivOk (997 : Int) := divOk_of (n := 10) (by decide) (by decide) (by decide)
    have hlt : xs.length < 16000000 := by omega
    have m1 : MulOk x 16807 := mulOk_r' (by decide) (by decide)
    have m2 : MulOk 7 i := mulOk_l (by decide) (by decide)
    have : m_law_digits_b2 (eDig r f l xs a b (some (.int i)) (some (.int x))) = .nx (eDig r f l (xs ++ [.int ((x * 16807 + 7 * i + 1) % 2147483647 / 997 % 1000)]) a b (some (.int i)) (some (.int ((x * 16807 + 7 * i + 1) % 2147483647)))) := by
      simp [m_law_digits_b2, eDig, modD_i, fdivD_i hdv, hlt, mulD_i m1, mulD_i m2]
    rw [loop_nx e1 this]
    exact dig_w12 ds _ _ _ hd.2 (allI_app h) (by simp; omega)
theorem dig_loop (ns : List Int) : ∀ (ds xs : List D) (a b c d : Option D), ds.all (fun x => match x with | .int i => decide (0 ≤ i) | _ => false) = true → xs.all D.isI = true → xs.length ≤ 1560 → ∃ xs' a' b' c' d', loopL (tgN 4) (m_law_digits_b3 S_cell) ds (eDig (.ro (ns.map .int)) (.int 0) (.int 63) xs a b c d) = .nx (eDig (.ro (ns.map .int)) (.int 0) (.int 63) xs' a' b' c' d') ∧ xs'.all D.isI = true ∧ xs'.length ≤ 1560 := by
  intro ds
  induction ds with
  | nil => exact fun xs a b c d _ h hl => ⟨xs, a, b, c, d, rfl, h, hl⟩
  | cons y ds ih =>
    intro xs a b c d hd h hl
    rw [List.all_cons, Bool.and_eq_true] at hd
    obtain ⟨hy, hd⟩ := hd
    cases y <;> try (simp at hy; done)
    rename_i k
    simp only [decide_eq_true_eq] at hy
    have e1 : tgN 4 (.int k) (eDig (.ro (ns.map .int)) (.int 0) (.int 63) xs a b c d) = .ok (eDig (.ro (ns.map .int)) (.int 0) (.int 63) xs (some (.int k)) b c d) := tgN_f (a := a) rfl
    obtain ⟨i, hi⟩ : ∃ i, S_cell [.f (.ro (ns.map .int)), .f (.int k)] = .ok (.f (.int i), []) := by
      refine ⟨(ns[k.toNat]?).getD 0, ?_⟩
      show (if 0 ≤ k then _ else _) = _
      rw [if_pos hy, List.getElem?_map]
      cases ns[k.toNat]? <;> rfl
    have m : MulOk 2 i := mulOk_l (by decide) (by decide)
    obtain ⟨j, ej⟩ : ∃ j, j = if i < 0 then 1 - 2 * i else i := ⟨_, rfl⟩
    have e2 : ∀ s : En → Out, sSeq (sAsgF 5 (mZ (mCall S_cell (aCons (aD (mVar 0)) (aCons (aD (mVar 4)) aNil))))) s (eDig (.ro (ns.map .int)) (.int 0) (.int 63) xs (some (.int k)) b c d) = s (eDig (.ro (ns.map .int)) (.int 0) (.int 63) xs (some (.int k)) (some (.int i)) c d) := fun s => by
      cases b <;> simp [eDig, hi]
    have e3 : ∀ s : En → Out, sSeq (sIf (mBool (m2 ltD (mH (mN (mVar 5))) (mH (mN (mC (.int 0)))))) (sAsgF 5 (mZ (m2 subD (mH (mN (mC (.int 1)))) (mH (m2 mulD (mH (mN (mC (.int 2)))) (mH (mN (mVar 5)))))))) sNext) s (eDig (.ro (ns.map .int)) (.int 0) (.int 63) xs (some (.int k)) (some (.int i)) c d) = s (eDig (.ro (ns.map .int)) (.int 0) (.int 63) xs (some (.int k)) (some (.int j)) c d) := fun s => by
      by_cases hi : i < 0
      · simp [eDig, ej, hi, mulD_i m]
      · simp [eDig, ej, hi]
    by_cases hb : 1500 < xs.length
    · have : m_law_digits_b3 S_cell (eDig (.ro (ns.map .int)) (.int 0) (.int 63) xs (some (.int k)) b c d) = .bk (eDig (.ro (ns.map .int)) (.int 0) (.int 63) xs (some (.int k)) (some (.int j)) c d) := by
        unfold m_law_digits_b3
        have : (1500 : Int) < (xs.length : Int) := by omega
        rw [e2, e3]
        simp [eDig, this]
      rw [loop_bk e1 this]
      exact ⟨_, _, _, _, _, rfl, h, hl⟩
    · have h15 : ¬ (1500 : Int) < (xs.length : Int) := by omega
      by_cases hj : 1000000000000000000 ≤ j
      · obtain ⟨xs', x', c', g1, g2, g3⟩ := dig_w60 (r := .ro (ns.map .int)) (f := .int 0) (l := .int 63) (a := some (.int k)) (d := d) (rgD 0 60) xs j c (allI_rg 0 60) h (by rw [rgD_len]; omega)
        have : m_law_digits_b3 S_cell (eDig (.ro (ns.map .int)) (.int 0) (.int 63) xs (some (.int k)) b c d) = .nx (eDig (.ro (ns.map .int)) (.int 0) (.int 63) xs' (some (.int k)) (some (.int x')) c' d) := by
          unfold m_law_digits_b3
          rw [e2, e3, ← g1]
          simp [eDig, h15, hj]
        rw [loop_nx e1 this]
        exact ih _ _ _ _ _ hd g2 g3
      · have m1 : MulOk j 48271 := mulOk_r' (by decide) (by decide)
        have m2 : MulOk k 69621 := mulOk_r' (by decide) (by decide)
        obtain ⟨xs', x', c', g1, g2, g3⟩ := dig_w12 (r := .ro (ns.map .int)) (f := .int 0) (l := .int 63) (a := some (.int k)) (b := some (.int j)) (rgD 0 12) xs ((j * 48271 + k * 69621 + 11) % 2147483647) c (allI_rg 0 12) h (by rw [rgD_len]; omega)
        have : m_law_digits_b3 S_cell (eDig (.ro (ns.map .int)) (.int 0) (.int 63) xs (some (.int k)) b c d) = .nx (eDig (.ro (ns.map .int)) (.int 0) (.int 63) xs' (some (.int k)) (some (.int j)) c' (some (.int x'))) := by
          unfold m_law_digits_b3
          rw [e2, e3, ← g1]
          cases d <;> simp [eDig, h15, hj, modD_i, mulD_i m1, mulD_i m2]
        rw [loop_nx e1 this]
        exact ih _ _ _ _ _ hd g2 g3
theorem dig_run (ns : List Int) : ∃ ds : List Int, ds.length ≤ 1560 ∧ runD 8 (m_law_digits S_cell) [.f (.ro (ns.map .int)), .f (.int 0), .f (.int 63)] = .ok (.l false (ds.map .int), []) := by
  obtain ⟨xs', a', b', c', d', g1, g2, g3⟩ := dig_loop ns (rgD 0 63) [] none none none none (by rw [rgD_map]; simp) rfl (by simp)
  obtain ⟨ds, rfl⟩ := allI_map g2
  refine ⟨ds, by simpa using g3, ?_⟩
  have g0 : loopL (tgN 4) (m_law_digits_b3 S_cell) (rgD 0 63) [some (.f (.ro (ns.map .int))), some (.f (.int 0)), some (.f (.int 63)), some (.l false []), none, none, none, none] = .nx [some (.f (.ro (ns.map .int))), some (.f (.int 0)), some (.f (.int 63)), some (.l false (ds.map .int)), a'.map .f, b'.map .f, c'.map .f, d'.map .f] := g1
  simp [runD_r, startE, m_law_digits, g0]
/-- _law_digits -/
noncomputable def S_digits : Sf := specR (fun cs => ∃ ns : List Int, cs = [.f (.ro (ns.map .int)), .f (.int 0), .f (.int 63)]) 8 (m_law_digits S_cell)
theorem sem_digits : ∀ cs c outs, S_digits cs = .ok (c, outs) → cs.length = 3 ∧ runD 8 (m_law_digits S_cell) cs = .ok (c, outs) := specR_sem fun cs ⟨ns, h⟩ => by rw [h]; rfl
theorem digits_r (ns : List Int) : ∃ ds : List Int, ds.length ≤ 1560 ∧ S_digits [.f (.ro (ns.map .int)), .f (.int 0), .f (.int 63)] = .ok (.l false (ds.map .int), []) := by
  obtain ⟨ds, h1, h2⟩ := dig_run ns
  exact ⟨ds, h1, by unfold S_digits; rw [specR_ok ⟨ns, rfl⟩, h2]⟩
end Sh
namespace Sh
open PySem L2 DL PyProof.Rows Md
/-- what _law_like compares, n deep -/
def lk : Nat → D → Bool
  | _, .none => true
  | _, .bool _ => true
  | _, .int _ => true
  | _, .str s => decide (s.length ≤ 16777216)
  | n + 1, .tuple ds => decide (ds.length ≤ 10000000) && ds.all (lk n)
  | _, _ => false
open Classical in
noncomputable def S_like (n : Nat) : Sf
  | [.f a, .f b] => if a = b ∧ lk n b = true then .ok (.f (.bool true), []) else .no
  | _ => .no
theorem like_r {n : Nat} {b : D} (h : lk n b = true) : S_like n [.f b, .f b] = .ok (.f (.bool true), []) := if_pos ⟨rfl, h⟩
noncomputable def S_likeP : Nat → Sf
  | 0 => fun _ => .no
  | n + 1 => S_like n
theorem mem_rg {d : D} {n : Nat} (h : d ∈ rgD 0 n) : ∃ i : Nat, i < n ∧ d = .int (i : Int) := by
  rw [rgD_map] at h
  obtain ⟨i, hi, rfl⟩ := List.mem_map.mp h
  exact ⟨i, List.mem_range.mp hi, by simp⟩
@[simp] theorem eqD_nil : eqD (.list []) (.list []) = .ok (.f (.bool true)) := rfl
theorem lk_str {n : Nat} {s : Str} (h : lk n (.str s) = true) : s.length ≤ 16777216 := by
  cases n <;> exact of_decide_eq_true h
theorem lk_tup {n : Nat} {ds : List D} (h : lk (n + 1) (.tuple ds) = true) : ds.length ≤ 10000000 ∧ ds.all (lk n) = true := by
  have h' := Bool.and_eq_true _ _ ▸ h
  exact ⟨of_decide_eq_true h'.1, h'.2⟩
theorem sl_none (n : Nat) : runD 3 (m_law_like (S_likeP n)) [.f .none, .f .none] = .ok (.f (.bool true), []) := by simp [runD_r, startE, m_law_like]
theorem sl_bool (n : Nat) (b : Bool) : runD 3 (m_law_like (S_likeP n)) [.f (.bool b), .f (.bool b)] = .ok (.f (.bool true), []) := by cases b <;> simp [runD_r, startE, m_law_like]
theorem sl_int (n : Nat) (i : Int) : runD 3 (m_law_like (S_likeP n)) [.f (.int i), .f (.int i)] = .ok (.f (.bool true), []) := by simp [runD_r, startE, m_law_like]
theorem sl_str (n : Nat) (s : Str) (h : s.length ≤ 16777216) : runD 3 (m_law_like (S_likeP n)) [.f (.str s), .f (.str s)] = .ok (.f (.bool true), []) := by
  have hj : joinD (.str "") (.list [.str s]) = .ok (.f (.str s)) := by
    show (if ([s].map (·.length)).sum + [s].length * (Str.ofString "").length ≤ 16777216 then _ else _) = _
    rw [if_pos]
    · rfl
    · show s.length + 0 + 1 * 0 ≤ _
      omega
  simp [runD_r, startE, m_law_like, hj]
theorem sl_tup (n : Nat) (ds : List D) (hl : ds.length ≤ 10000000) (ha : ds.all (lk n) = true) : runD 3 (m_law_like (S_likeP (n + 1))) [.f (.tuple ds), .f (.tuple ds)] = .ok (.f (.bool true), []) := by
  have hc : mComp (mRng1 (aCons (mZ (mL lenD (aCons (mH (mN (mVar 1))) aNil))) aNil)) (tgN 2) [2] (m_law_like_c1 (S_likeP (n + 1))) m_law_like_e1 [some (.f (.tuple ds)), some (.f (.tuple ds)), none] = .ok (.l false [], [some (.f (.tuple ds)), some (.f (.tuple ds)), none]) := by
    have h0 : mRng1 (aCons (mZ (mL lenD (aCons (mH (mN (mVar 1))) aNil))) aNil) [some (.f (.tuple ds)), some (.f (.tuple ds)), none] = .ok (rgD 0 ds.length, [some (.f (.tuple ds)), some (.f (.tuple ds)), none]) := by
      have := rng1_r (ma := aCons (mZ (mL lenD (aCons (mH (mN (mVar 1))) aNil))) aNil) (e := [some (.f (.tuple ds)), some (.f (.tuple ds)), none]) (n := ds.length) (by simp; rfl) (by omega) (by omega)
      rw [this]
      simp
    rw [mComp_pure (fun _ => none) h0 (tgOk_n 2) (by simp) (by simp) (by rw [rgD_len]; omega) ?_]
    · simp
    · intro d hd
      obtain ⟨i, hi, rfl⟩ := mem_rg hd
      have hx : ds[i]? = some ds[i] := List.getElem?_eq_getElem hi
      have hk := like_r (List.all_eq_true.mp ha ds[i] (List.getElem_mem hi))
      refine ⟨[some (.f (.tuple ds)), some (.f (.tuple ds)), some (.f (.int i))], ?_, ?_, fun x hx => by cases hx⟩
      · simp [wipeE]
      · simp [m_law_like_c1, ixD_tn hx, S_likeP, hk]
  simp [runD_r, startE, m_law_like, hc]
open Classical in
theorem sem_like (n : Nat) : ∀ cs c outs, S_like n cs = .ok (c, outs) → cs.length = 2 ∧ runD 3 (m_law_like (S_likeP n)) cs = .ok (c, outs) := by
  intro cs c outs h
  unfold S_like at h
  split at h
  · rename_i a b
    by_cases hc : a = b ∧ lk n b = true
    case neg =>
      rw [if_neg hc] at h
      cases h
    rw [if_pos hc] at h
    obtain ⟨rfl, h2⟩ := hc
    cases h
    refine ⟨rfl, ?_⟩
    cases a with
    | none => exact sl_none n
    | bool b => exact sl_bool n b
    | int i => exact sl_int n i
    | str s => exact sl_str n s (lk_str h2)
    | tuple ds =>
      cases n with
      | zero => cases h2
      | succ n => exact sl_tup n ds (lk_tup h2).1 (lk_tup h2).2
    | list ds => cases n <;> cases h2
    | tupW ds => cases n <;> cases h2
    | dict t ks vs => cases n <;> cases h2
    | ro ds => cases n <;> cases h2
  · cases h
end Sh

namespace Md
open PySem L2 DL PyProof.Rows
noncomputable def m_ratio : En → Out :=
  (sSeq (sAsgF 2 (mZ (mL gcdD (aCons (mH (mN (mVar 0))) (aCons (mH (mN (mVar 1))) aNil)))))
    (sSeq (sIf (mBool (m2 ltD (mH (mN (mVar 1))) (mH (mN (mC (.int 0)))))) (sAsgF 2 (mZ (m1 negD (mH (mN (mVar 2)))))) sNext)
    (sRet (mN (mTup (aCons (mZ (m2 fdivD (mH (mN (mVar 0))) (mH (mN (mVar 2))))) (aCons (mZ (m2 fdivD (mH (mN (mVar 1))) (mH (mN (mVar 2))))) aNil)))))))
noncomputable def m_law_gcd_b1 : En → Out :=
  (sSeq (sIf (mBool (m2 eqD (mH (mN (mVar 1))) (mH (mN (mC (.int 0)))))) sBreak sNext)
    (sParN 0 1 (mN (mVar 1)) (mN (mZ (m2 modD (mH (mL intD (aCons (mH (mN (mVar 0))) aNil))) (mH (mN (mVar 1))))))))
noncomputable def m_law_gcd : En → Out :=
  (sSeq (sFor (mRng1 (aCons (mC (.int 300)) aNil)) (tgN 2) m_law_gcd_b1)
    (sRet (mN (mVar 0))))
noncomputable def m_law_ratio (S_law_gcd : Sf) : En → Out :=
  (sSeq (sAsgF 2 (mZ (mCall S_law_gcd (aCons (aD (mZ (mL absD (aCons (mH (mN (mVar 0))) aNil)))) (aCons (aD (mVar 1)) aNil)))))
    (sRet (mN (mTup (aCons (mZ (m2 fdivD (mH (mN (mVar 0))) (mH (mN (mVar 2))))) (aCons (mZ (m2 fdivD (mH (mN (mVar 1))) (mH (mN (mVar 2))))) aNil))))))
end Md
namespace Sh
open PySem L2 DL PyProof.Rows Md
/-! ### gcd and ratio -/
theorem divOk_dvd {g b : Int} {n : Nat} (hg : 0 < g) (hd : g ∣ b) (h : 0 < b) (h2 : b < 2 ^ n) (hn : n ≤ 8000) : DivOk g :=
  divOk_of hg (Int.lt_of_le_of_lt (Int.le_of_dvd h hd) h2) hn
theorem gcd_pos_r {a b : Int} (h : 0 < b) : 0 < (Int.gcd a b : Int) := by
  have := Int.gcd_pos_of_ne_zero_right a (show b ≠ 0 by omega)
  omega
/-- a / b in its lowest terms -/
def redI (a b : Int) : Int × Int := (a / (Int.gcd a b : Int), b / (Int.gcd a b : Int))
def qD (p : Int × Int) : D := .tuple [.int p.1, .int p.2]
noncomputable def S_ratio : Sf
  | [.f (.int a), .f (.int b)] => if 0 < b ∧ b < 2 ^ 4000 then .ok (.f (qD (redI a b)), []) else .no
  | _ => .no
theorem ratio_r {a b : Int} (h : 0 < b) (h2 : b < 2 ^ 4000) : S_ratio [.f (.int a), .f (.int b)] = .ok (.f (qD (redI a b)), []) := if_pos ⟨h, h2⟩
theorem sem_ratio : ∀ cs c outs, S_ratio cs = .ok (c, outs) → cs.length = 2 ∧ runD 3 m_ratio cs = .ok (c, outs) := by
  intro cs c outs h
  unfold S_ratio at h
  split at h
  · rename_i a b
    obtain ⟨⟨h1, h2⟩, h⟩ := ite_ok h
    cases h
    have hg : DivOk (Int.gcd a b : Int) := divOk_dvd (gcd_pos_r h1) (Int.gcd_dvd_right a b) h1 h2 (by decide)
    refine ⟨rfl, ?_⟩
    have hb : decide (b < 0) = false := decide_eq_false (by omega)
    have hg' : DivOk ((a.natAbs.gcd b.natAbs : Nat) : Int) := hg
    simp [runD_r, startE, m_ratio, hb, fdivD_i hg', Int.gcd, qD, redI]
  · cases h
/-- _law_gcd's walk -/
theorem gcd_loop : ∀ (m : Nat) (ds : List D) (a b : Nat) (t : Option D), b < 2 ^ m → 2 * m ≤ ds.length →
    ∃ (b' : Int) (t' : Option D), loopL (tgN 2) m_law_gcd_b1 ds [some (.f (.int (a : Int))), some (.f (.int (b : Int))), t.map .f] = .nx [some (.f (.int ((Nat.gcd a b : Nat) : Int))), some (.f (.int b')), t'.map .f] := by
  have st : ∀ (d : D) (ds : List D) (a b : Nat) (t : Option D), 0 < b → loopL (tgN 2) m_law_gcd_b1 (d :: ds) [some (.f (.int (a : Int))), some (.f (.int (b : Int))), t.map .f] = loopL (tgN 2) m_law_gcd_b1 ds [some (.f (.int (b : Int))), some (.f (.int ((a % b : Nat) : Int))), some (.f d)] := by
    intro d ds a b t hb
    have hb0 : ¬ (b : Int) = 0 := by omega
    have hb1 : (0 : Int) < (b : Int) := by omega
    have hb2 : ¬ b = 0 := by omega
    exact loop_nx (tgN_f (a := t) rfl) (by simp [m_law_gcd_b1, hb0, hb2, modD_i hb1])
  have z : ∀ (ds : List D) (a : Nat) (t : Option D), ∃ (b' : Int) (t' : Option D), loopL (tgN 2) m_law_gcd_b1 ds [some (.f (.int (a : Int))), some (.f (.int ((0 : Nat) : Int))), t.map .f] = .nx [some (.f (.int ((Nat.gcd a 0 : Nat) : Int))), some (.f (.int b')), t'.map .f] := by
    intro ds a t
    rw [Nat.gcd_zero_right]
    cases ds with
    | nil => exact ⟨_, t, rfl⟩
    | cons d ds => exact ⟨0, some d, loop_bk (tgN_f (a := t) rfl) (by simp [m_law_gcd_b1])⟩
  intro m
  induction m with
  | zero =>
    intro ds a b t hb _
    have : b = 0 := by
      have : b < 1 := by simpa using hb
      omega
    subst this
    exact z ds a t
  | succ m ih =>
    intro ds a b t hb hl
    by_cases h0 : b = 0
    · subst h0
      exact z ds a t
    · match ds, hl with
      | d :: d2 :: ds, hl =>
        have hr := Nat.mod_lt a (show b > 0 by omega)
        have e1 : Nat.gcd a b = Nat.gcd b (a % b) := by
          rw [Nat.gcd_comm a b, Nat.gcd_rec b a, Nat.gcd_comm]
        rw [st d _ a b t (by omega), e1]
        by_cases h1 : a % b = 0
        · rw [h1]
          exact z _ b (some d)
        · have e2 : Nat.gcd b (a % b) = Nat.gcd (a % b) (b % (a % b)) := by
            rw [Nat.gcd_comm b, Nat.gcd_rec (a % b) b, Nat.gcd_comm]
          have hr2 := Nat.mod_lt b (show a % b > 0 by omega)
          have hd := Nat.div_add_mod b (a % b)
          have hq : 1 ≤ b / (a % b) := (Nat.le_div_iff_mul_le (by omega)).mpr (by omega)
          have hm : a % b ≤ (a % b) * (b / (a % b)) := Nat.le_mul_of_pos_right _ hq
          have := st d2 ds b (a % b) (some d) (by omega)
          rw [show (some d).map Ce.f = some (.f d) from rfl] at this
          rw [this, e2]
          exact ih ds (a % b) (b % (a % b)) (some d2) (by rw [Nat.pow_succ] at hb; omega) (by simp at hl; omega)
      | [_], hl => simp at hl; omega
      | [], hl => simp at hl
noncomputable def S_gcd : Sf
  | [.f (.int a), .f (.int b)] => if 0 ≤ a ∧ 0 ≤ b ∧ b < 2 ^ 150 then .ok (.f (.int (Int.gcd a b : Int)), []) else .no
  | _ => .no
theorem gcd_r {a b : Int} (h : 0 ≤ a) (h1 : 0 ≤ b) (h2 : b < 2 ^ 150) : S_gcd [.f (.int a), .f (.int b)] = .ok (.f (.int (Int.gcd a b : Int)), []) := if_pos ⟨h, h1, h2⟩
theorem sem_gcd : ∀ cs c outs, S_gcd cs = .ok (c, outs) → cs.length = 2 ∧ runD 3 m_law_gcd cs = .ok (c, outs) := by
  intro cs c outs h
  unfold S_gcd at h
  split at h
  · rename_i a b
    obtain ⟨⟨h0, h1, h2⟩, h⟩ := ite_ok h
    cases h
    refine ⟨rfl, ?_⟩
    obtain ⟨x, rfl⟩ := Int.eq_ofNat_of_zero_le h0
    obtain ⟨y, rfl⟩ := Int.eq_ofNat_of_zero_le h1
    obtain ⟨b', t', g⟩ := gcd_loop 150 (rgD 0 300) x y none (by exact_mod_cast h2) (by rw [rgD_len]; decide)
    rw [show (none : Option D).map Ce.f = none from rfl] at g
    simp [runD_r, startE, m_law_gcd, g]
  · cases h
noncomputable def S_lratio : Sf
  | [.f (.int a), .f (.int b)] => if 0 < b ∧ b < 2 ^ 150 then .ok (.f (qD (redI a b)), []) else .no
  | _ => .no
theorem lratio_r {a b : Int} (h : 0 < b) (h2 : b < 2 ^ 150) : S_lratio [.f (.int a), .f (.int b)] = .ok (.f (qD (redI a b)), []) := if_pos ⟨h, h2⟩
theorem sem_lratio : ∀ cs c outs, S_lratio cs = .ok (c, outs) → cs.length = 2 ∧ runD 3 (m_law_ratio S_gcd) cs = .ok (c, outs) := by
  intro cs c outs h
  unfold S_lratio at h
  split at h
  · rename_i a b
    obtain ⟨⟨h1, h2⟩, h⟩ := ite_ok h
    cases h
    have hg : DivOk (Int.gcd a b : Int) := divOk_dvd (gcd_pos_r h1) (Int.gcd_dvd_right a b) h1 h2 (by decide)
    refine ⟨rfl, ?_⟩
    have e : Int.gcd (if a < 0 then -a else a) b = Int.gcd a b := by
      split
      · exact Int.neg_gcd
      · rfl
    have hc := gcd_r (a := if a < 0 then -a else a) (b := b) (by split <;> omega) (by omega) h2
    rw [e] at hc
    simp [runD_r, startE, m_law_ratio, hc, fdivD_i hg, qD, redI]
  · cases h
end Sh

namespace Md
open PySem L2 DL PyProof.Rows
noncomputable def m_plus (S_ratio : Sf) : En → Out :=
  (sRet (mCall S_ratio (aCons (aD (mZ (m2 addD (mH (m2 mulD (mH (m2 ixD (mH (mN (mVar 0))) (mH (mN (mC (.int 0)))))) (mH (m2 ixD (mH (mN (mVar 1))) (mH (mN (mC (.int 1)))))))) (mH (m2 mulD (mH (m2 ixD (mH (mN (mVar 1))) (mH (mN (mC (.int 0)))))) (mH (m2 ixD (mH (mN (mVar 0))) (mH (mN (mC (.int 1))))))))))) (aCons (aD (mZ (m2 mulD (mH (m2 ixD (mH (mN (mVar 0))) (mH (mN (mC (.int 1)))))) (mH (m2 ixD (mH (mN (mVar 1))) (mH (mN (mC (.int 1))))))))) aNil))))
noncomputable def m_minus (S_ratio : Sf) : En → Out :=
  (sRet (mCall S_ratio (aCons (aD (mZ (m2 subD (mH (m2 mulD (mH (m2 ixD (mH (mN (mVar 0))) (mH (mN (mC (.int 0)))))) (mH (m2 ixD (mH (mN (mVar 1))) (mH (mN (mC (.int 1)))))))) (mH (m2 mulD (mH (m2 ixD (mH (mN (mVar 1))) (mH (mN (mC (.int 0)))))) (mH (m2 ixD (mH (mN (mVar 0))) (mH (mN (mC (.int 1))))))))))) (aCons (aD (mZ (m2 mulD (mH (m2 ixD (mH (mN (mVar 0))) (mH (mN (mC (.int 1)))))) (mH (m2 ixD (mH (mN (mVar 1))) (mH (mN (mC (.int 1))))))))) aNil))))
noncomputable def m_compare : En → Out :=
  (sSeq (sAsgF 2 (mZ (m2 subD (mH (m2 mulD (mH (m2 ixD (mH (mN (mVar 0))) (mH (mN (mC (.int 0)))))) (mH (m2 ixD (mH (mN (mVar 1))) (mH (mN (mC (.int 1)))))))) (mH (m2 mulD (mH (m2 ixD (mH (mN (mVar 1))) (mH (mN (mC (.int 0)))))) (mH (m2 ixD (mH (mN (mVar 0))) (mH (mN (mC (.int 1)))))))))))
    (sSeq (sIf (mBool (m2 eqD (mH (mN (mVar 2))) (mH (mN (mC (.int 0)))))) (sRet (mN (mC (.int 0)))) sNext)
    (sRet (mIf (mBool (m2 gtD (mH (mN (mVar 2))) (mH (mN (mC (.int 0)))))) (mN (mC (.int 1))) (m1 negD (mH (mN (mC (.int 1)))))))))
noncomputable def m_law_plus (S_law_ratio : Sf) : En → Out :=
  (sRet (mCall S_law_ratio (aCons (aD (mZ (m2 addD (mH (m2 mulD (mH (m2 ixD (mH (mN (mVar 0))) (mH (mN (mC (.int 0)))))) (mH (m2 ixD (mH (mN (mVar 1))) (mH (mN (mC (.int 1)))))))) (mH (m2 mulD (mH (m2 ixD (mH (mN (mVar 1))) (mH (mN (mC (.int 0)))))) (mH (m2 ixD (mH (mN (mVar 0))) (mH (mN (mC (.int 1))))))))))) (aCons (aD (mZ (m2 mulD (mH (m2 ixD (mH (mN (mVar 0))) (mH (mN (mC (.int 1)))))) (mH (m2 ixD (mH (mN (mVar 1))) (mH (mN (mC (.int 1))))))))) aNil))))
noncomputable def m_law_minus (S_law_ratio : Sf) : En → Out :=
  (sRet (mCall S_law_ratio (aCons (aD (mZ (m2 subD (mH (m2 mulD (mH (m2 ixD (mH (mN (mVar 0))) (mH (mN (mC (.int 0)))))) (mH (m2 ixD (mH (mN (mVar 1))) (mH (mN (mC (.int 1)))))))) (mH (m2 mulD (mH (m2 ixD (mH (mN (mVar 1))) (mH (mN (mC (.int 0)))))) (mH (m2 ixD (mH (mN (mVar 0))) (mH (mN (mC (.int 1))))))))))) (aCons (aD (mZ (m2 mulD (mH (m2 ixD (mH (mN (mVar 0))) (mH (mN (mC (.int 1)))))) (mH (m2 ixD (mH (mN (mVar 1))) (mH (mN (mC (.int 1))))))))) aNil))))
noncomputable def m_law_less : En → Out :=
  (sRet (m2 ltD (mH (m2 mulD (mH (m2 ixD (mH (mN (mVar 0))) (mH (mN (mC (.int 0)))))) (mH (m2 ixD (mH (mN (mVar 1))) (mH (mN (mC (.int 1)))))))) (mH (m2 mulD (mH (m2 ixD (mH (mN (mVar 1))) (mH (mN (mC (.int 0)))))) (mH (m2 ixD (mH (mN (mVar 0))) (mH (mN (mC (.int 1))))))))))
end Md
namespace Sh
open PySem L2 DL PyProof.Rows Md
/-! ### ratios reckoned -/
def Bg (i : Int) : Prop := i.natAbs < 2 ^ 1500
noncomputable instance (i : Int) : Decidable (Bg i) := Classical.propDecidable _
theorem bg_mul {i j : Int} (h : Bg i) (h2 : Bg j) : MulOk i j := .inr (.inr ⟨Nat.lt_of_lt_of_le h (pow_mono2 (by decide)), Nat.lt_of_lt_of_le h2 (pow_mono2 (by decide))⟩)
theorem bg_le {i : Int} {n : Nat} (h : i.natAbs < 2 ^ n) (hn : n ≤ 1500) : Bg i := Nat.lt_of_lt_of_le h (pow_mono2 hn)
theorem bg_small {i : Int} (h : i.natAbs < 2 ^ 64) : Bg i := bg_le h (by decide)
theorem mul_lt3000 {b d : Int} (h : Bg b) (h2 : Bg d) : b * d < 2 ^ 4000 := by
  have h3 : (b * d).natAbs < 2 ^ 4000 := by
    rw [Int.natAbs_mul]
    have h4 : b.natAbs * d.natAbs ≤ 2 ^ 1500 * 2 ^ 1500 := Nat.mul_le_mul (Nat.le_of_lt h) (Nat.le_of_lt h2)
    rw [← Nat.pow_add] at h4
    exact Nat.lt_of_le_of_lt h4 (Nat.pow_lt_pow_right (by decide) (by decide))
  have h5 : b * d ≤ ((b * d).natAbs : Int) := Int.le_natAbs
  have h6 : (((b * d).natAbs : Nat) : Int) < ((2 ^ 4000 : Nat) : Int) := Int.ofNat_lt.mpr h3
  rw [Int.natCast_pow] at h6
  exact Int.lt_of_le_of_lt h5 h6
noncomputable def S_plus : Sf
  | [.f (.tuple [.int a, .int b]), .f (.tuple [.int c, .int d])] => if 0 < b * d ∧ Bg a ∧ Bg b ∧ Bg c ∧ Bg d then .ok (.f (qD (redI (a * d + c * b) (b * d))), []) else .no
  | _ => .no
noncomputable def S_minus : Sf
  | [.f (.tuple [.int a, .int b]), .f (.tuple [.int c, .int d])] => if 0 < b * d ∧ Bg a ∧ Bg b ∧ Bg c ∧ Bg d then .ok (.f (qD (redI (a * d - c * b) (b * d))), []) else .no
  | _ => .no
noncomputable def S_lplus : Sf
  | [.f (.tuple [.int a, .int b]), .f (.tuple [.int c, .int d])] => if 0 < b * d ∧ b * d < 2 ^ 150 ∧ Bg a ∧ Bg b ∧ Bg c ∧ Bg d then .ok (.f (qD (redI (a * d + c * b) (b * d))), []) else .no
  | _ => .no
noncomputable def S_lminus : Sf
  | [.f (.tuple [.int a, .int b]), .f (.tuple [.int c, .int d])] => if 0 < b * d ∧ b * d < 2 ^ 150 ∧ Bg a ∧ Bg b ∧ Bg c ∧ Bg d then .ok (.f (qD (redI (a * d - c * b) (b * d))), []) else .no
  | _ => .no
noncomputable def S_less : Sf
  | [.f (.tuple [.int a, .int b]), .f (.tuple [.int c, .int d])] => if Bg a ∧ Bg b ∧ Bg c ∧ Bg d then .ok (.f (.bool (decide (a * d < c * b))), []) else .no
  | _ => .no
noncomputable def S_compare : Sf
  | [.f (.tuple [.int a, .int b]), .f (.tuple [.int c, .int d])] => if Bg a ∧ Bg b ∧ Bg c ∧ Bg d then .ok (.f (.int (if a * d - c * b = 0 then 0 else if 0 < a * d - c * b then 1 else -1)), []) else .no
  | _ => .no
theorem sem_plus : ∀ cs c outs, S_plus cs = .ok (c, outs) → cs.length = 2 ∧ runD 2 (m_plus S_ratio) cs = .ok (c, outs) := by
  intro cs c outs h
  unfold S_plus at h
  split at h
  · rename_i a b c d
    obtain ⟨⟨h1, h2, h3, h4, h5⟩, h⟩ := ite_ok h
    cases h
    have hr := ratio_r (a := a * d + c * b) h1 (mul_lt3000 h3 h5)
    exact ⟨rfl, by simp [runD_r, startE, m_plus, mulD_i (bg_mul h2 h5), mulD_i (bg_mul h4 h3), mulD_i (bg_mul h3 h5), hr]⟩
  · cases h
theorem sem_minus : ∀ cs c outs, S_minus cs = .ok (c, outs) → cs.length = 2 ∧ runD 2 (m_minus S_ratio) cs = .ok (c, outs) := by
  intro cs c outs h
  unfold S_minus at h
  split at h
  · rename_i a b c d
    obtain ⟨⟨h1, h2, h3, h4, h5⟩, h⟩ := ite_ok h
    cases h
    have hr := ratio_r (a := a * d - c * b) h1 (mul_lt3000 h3 h5)
    exact ⟨rfl, by simp [runD_r, startE, m_minus, mulD_i (bg_mul h2 h5), mulD_i (bg_mul h4 h3), mulD_i (bg_mul h3 h5), hr]⟩
  · cases h
theorem sem_lplus : ∀ cs c outs, S_lplus cs = .ok (c, outs) → cs.length = 2 ∧ runD 2 (m_law_plus S_lratio) cs = .ok (c, outs) := by
  intro cs c outs h
  unfold S_lplus at h
  split at h
  · rename_i a b c d
    obtain ⟨⟨h1, h0, h2, h3, h4, h5⟩, h⟩ := ite_ok h
    cases h
    have hr := lratio_r (a := a * d + c * b) h1 h0
    exact ⟨rfl, by simp [runD_r, startE, m_law_plus, mulD_i (bg_mul h2 h5), mulD_i (bg_mul h4 h3), mulD_i (bg_mul h3 h5), hr]⟩
  · cases h
theorem sem_lminus : ∀ cs c outs, S_lminus cs = .ok (c, outs) → cs.length = 2 ∧ runD 2 (m_law_minus S_lratio) cs = .ok (c, outs) := by
  intro cs c outs h
  unfold S_lminus at h
  split at h
  · rename_i a b c d
    obtain ⟨⟨h1, h0, h2, h3, h4, h5⟩, h⟩ := ite_ok h
    cases h
    have hr := lratio_r (a := a * d - c * b) h1 h0
    exact ⟨rfl, by simp [runD_r, startE, m_law_minus, mulD_i (bg_mul h2 h5), mulD_i (bg_mul h4 h3), mulD_i (bg_mul h3 h5), hr]⟩
  · cases h
theorem sem_less : ∀ cs c outs, S_less cs = .ok (c, outs) → cs.length = 2 ∧ runD 2 m_law_less cs = .ok (c, outs) := by
  intro cs c outs h
  unfold S_less at h
  split at h
  · rename_i a b c d
    obtain ⟨⟨h2, h3, h4, h5⟩, h⟩ := ite_ok h
    cases h
    exact ⟨rfl, by simp [runD_r, startE, m_law_less, mulD_i (bg_mul h2 h5), mulD_i (bg_mul h4 h3)]⟩
  · cases h
theorem sem_compare : ∀ cs c outs, S_compare cs = .ok (c, outs) → cs.length = 2 ∧ runD 3 m_compare cs = .ok (c, outs) := by
  intro cs c outs h
  unfold S_compare at h
  split at h
  · rename_i a b c d
    obtain ⟨⟨h2, h3, h4, h5⟩, h⟩ := ite_ok h
    cases h
    refine ⟨rfl, ?_⟩
    by_cases h0 : a * d - c * b = 0
    · simp [runD_r, startE, m_compare, mulD_i (bg_mul h2 h5), mulD_i (bg_mul h4 h3), h0]
    · by_cases h1 : c * b < a * d
      · simp [runD_r, startE, m_compare, mulD_i (bg_mul h2 h5), mulD_i (bg_mul h4 h3), h0, h1]
      · simp [runD_r, startE, m_compare, mulD_i (bg_mul h2 h5), mulD_i (bg_mul h4 h3), h0, h1]
  · cases h
end Sh

namespace Md
open PySem L2 DL PyProof.Rows
noncomputable def m_law_pick (S_law_draw : Sf) : En → Out :=
  (sRet (m2 ixD (mH (mN (mVar 1))) (mH (m2 modD (mH (mL intD (aCons (mH (mCall S_law_draw (aCons (aS 0) (aCons (aD (mC (.int 900))) aNil)))) aNil))) (mH (mL lenD (aCons (mH (mN (mVar 1))) aNil)))))))
end Md
namespace Sh
open PySem L2 DL PyProof.Rows Md
/-- _law_pick -/
noncomputable def S_law_pick : Sf
  | [.l true [.list xs, .int a], .f (.list ts)] => if 0 ≤ a ∧ a < 2 ^ 62 ∧ xs.all D.isI = true ∧ 0 < ts.length then .ok (.f ((ts[(dv xs a 900 % (ts.length : Int)).toNat]?).getD .none), [.l true [.list xs, .int (a + 1)]]) else .no
  | _ => .no
theorem pick_fin {xs ts : List D} {a w i : Int} {d : D} (h1 : S_draw [.l true [.list xs, .int a], .f (.int 900)] = .ok (.f (.int w), [.l true [.list xs, .int (a + 1)]])) (h2 : modD (.int w) (.int (ts.length : Int)) = .ok (.f (.int i))) (h3 : ixD (.list ts) (.int i) = .ok (.f d)) :
    runD 2 (m_law_pick S_draw) [.l true [.list xs, .int a], .f (.list ts)] = .ok (.f d, [.l true [.list xs, .int (a + 1)]]) := by
  simp [runD_r, startE, m_law_pick, h1, h2, h3]
theorem sem_law_pick : ∀ cs c outs, S_law_pick cs = .ok (c, outs) → cs.length = 2 ∧ runD 2 (m_law_pick S_draw) cs = .ok (c, outs) := by
  intro cs c outs h
  unfold S_law_pick at h
  split at h
  · rename_i xs a ts
    obtain ⟨⟨h1, h2, h3, h4⟩, h⟩ := ite_ok h
    cases h
    have d1 := draw_r h3 h1 h2 (m := 900) (by decide) (by decide)
    have hl : (0 : Int) < (ts.length : Int) := by omega
    have i0 := Int.emod_nonneg (dv xs a 900) (show (ts.length : Int) ≠ 0 by omega)
    have i1 := Int.emod_lt_of_pos (dv xs a 900) hl
    have hx : ts[(dv xs a 900 % (ts.length : Int)).toNat]? = some (ts[(dv xs a 900 % (ts.length : Int)).toNat]'(by omega)) := List.getElem?_eq_getElem (by omega)
    rw [hx]
    exact ⟨rfl, pick_fin d1 (modD_i hl) (ixD_lN i0 hx)⟩
  · cases h
/-- a pick from a list -/
theorem pick_r {xs ts : List D} {a : Int} (hx : xs.all D.isI = true) (h1 : 0 ≤ a) (h2 : a < 2 ^ 62) (hl : 0 < ts.length) : ∃ (k : Nat) (d : D), ts[k]? = some d ∧ S_law_pick [.l true [.list xs, .int a], .f (.list ts)] = .ok (.f d, [.l true [.list xs, .int (a + 1)]]) := by
  have hS : S_law_pick [.l true [.list xs, .int a], .f (.list ts)] = .ok (.f ((ts[(dv xs a 900 % (ts.length : Int)).toNat]?).getD .none), [.l true [.list xs, .int (a + 1)]]) := if_pos ⟨h1, h2, hx, hl⟩
  have i0 := Int.emod_nonneg (dv xs a 900) (show (ts.length : Int) ≠ 0 by omega)
  have i1 := Int.emod_lt_of_pos (dv xs a 900) (show (0 : Int) < (ts.length : Int) by omega)
  have hx : ts[(dv xs a 900 % (ts.length : Int)).toNat]? = some (ts[(dv xs a 900 % (ts.length : Int)).toNat]'(by omega)) := List.getElem?_eq_getElem (by omega)
  rw [hx] at hS
  exact ⟨_, _, hx, hS⟩
end Sh

namespace Md
open PySem L2 DL PyProof.Rows
noncomputable def m_count : En → Out :=
  (sRet (m2 fdivD (mH (m2 addD (mH (m2 mulD (mH (mN (mVar 0))) (mH (mN (mVar 3))))) (mH (mN (mVar 2))))) (mH (mN (mVar 1)))))
noncomputable def m_even_word_e1 (S_count : Sf) : M D :=
  (mZ (mCall S_count (aCons (aD (mVar 0)) (aCons (aD (mVar 1)) (aCons (aD (mVar 2)) (aCons (aD (mVar 4)) aNil))))))
noncomputable def m_even_word_e2 : M D :=
  (mZ (m2 subD (mH (mN (mVar 6))) (mH (mN (mVar 5)))))
noncomputable def m_even_word (S_count : Sf) : En → Out :=
  (sSeq (sAsgF 3 (mZ (mComp (mRng1 (aCons (mZ (m2 addD (mH (mN (mVar 1))) (mH (mN (mC (.int 1)))))) aNil)) (tgN 4) [4] mYes (m_even_word_e1 S_count))))
    (sRet (mL tupleD (aCons (mH (mComp (mZip (mVar 3) (mZ (mSlice (mH (mN (mVar 3))) (mO1 (mC (.int 1))) mO0))) (tgT [(tgN 5), (tgN 6)]) [5, 6] mYes m_even_word_e2)) aNil))))
noncomputable def m_place_of_one : En → Out :=
  (sRet (m2 fdivD (mH (m2 subD (mH (m2 subD (mH (m2 mulD (mH (mN (mVar 1))) (mH (m2 addD (mH (mN (mVar 3))) (mH (mN (mC (.int 1)))))))) (mH (mN (mVar 2))))) (mH (mN (mC (.int 1)))))) (mH (mN (mVar 0)))))
noncomputable def m_evenness_b1 : En → Out :=
  (sSeq (sAug iaddD 3 (mZ (m2 subD (mH (m2 mulD (mH (mN (mVar 1))) (mH (mN (mVar 6))))) (mH (mN (mVar 2))))))
    (sSeq (sAsgF 4 (mZ (mL minD (aCons (mH (mN (mVar 4))) (aCons (mH (mN (mVar 3))) aNil)))))
    (sAsgF 5 (mZ (mL maxD (aCons (mH (mN (mVar 5))) (aCons (mH (mN (mVar 3))) aNil)))))))
noncomputable def m_evenness (S_uneven : Sf) : En → Out :=
  (sSeq (sAsgF 1 (mZ (mL lenD (aCons (mH (mN (mVar 0))) aNil))))
    (sSeq (sAsgF 2 (mZ (mL sumD (aCons (mH (mN (mVar 0))) aNil))))
    (sSeq (sTgt (tgT [(tgN 3), (tgN 4), (tgN 5)]) (mTup (aCons (mC (.int 0)) (aCons (mC (.int 0)) (aCons (mC (.int 0)) aNil)))))
    (sSeq (sFor (mSeqA (mVar 0)) (tgN 6) m_evenness_b1)
    (sSeq (sIf (mBool (m2 ltD (mH (m2 subD (mH (mN (mVar 5))) (mH (mN (mVar 4))))) (mH (mN (mVar 1))))) (sRet (mN (mTup (aCons (mC (.str "even")) (aCons (mVar 5) aNil))))) sNext)
    (sRet (mCall S_uneven (aCons (aD (mVar 0)) aNil))))))))
noncomputable def m_uneven_b1 : En → Out :=
  (sApp 1 (mZ (m2 addD (mH (m2 ixD (mSl 1) (mH (m1 negD (mH (mN (mC (.int 1)))))))) (mH (mN (mVar 2))))))
noncomputable def m_uneven_e1 : M D :=
  (mZ (m2 subD (mH (m2 ixD (mSl 1) (mH (m2 addD (mH (mN (mVar 2))) (mH (mN (mVar 3))))))) (mH (m2 ixD (mSl 1) (mH (mN (mVar 2)))))))
noncomputable def m_uneven_b2 : En → Out :=
  (sSeq (sAsgF 4 (mZ (mComp (mRng1 (aCons (mZ (mL lenD (aCons (mH (mN (mVar 0))) aNil))) aNil)) (tgN 2) [2] mYes m_uneven_e1)))
    (sIf (mBool (m2 gtD (mH (m2 subD (mH (mL maxD (aCons (mH (mN (mVar 4))) aNil))) (mH (mL minD (aCons (mH (mN (mVar 4))) aNil))))) (mH (mN (mC (.int 1)))))) (sRet (mN (mTup (aCons (mC (.str "uneven")) (aCons (mVar 3) (aCons (mZ (mIndex (mVar 4) (mZ (mL minD (aCons (mH (mN (mVar 4))) aNil))))) (aCons (mZ (mIndex (mVar 4) (mZ (mL maxD (aCons (mH (mN (mVar 4))) aNil))))) aNil))))))) sNext))
noncomputable def m_uneven : En → Out :=
  (sSeq (sAsg 1 (mLst (aCons (mC (.int 0)) aNil)))
    (sSeq (sFor (mSeqA (mZ (m2 addD (mH (mN (mVar 0))) (mH (mN (mVar 0)))))) (tgN 2) m_uneven_b1)
    (sSeq (sFor (mRng2 (aCons (mC (.int 1)) (aCons (mZ (mL lenD (aCons (mH (mN (mVar 0))) aNil))) aNil))) (tgN 3) m_uneven_b2)
    (sRet (mN (mC .none))))))
end Md
namespace ShW
/-! ### plain facts: words and their windows -/
def sumN (f : Nat → Int) : Nat → Int
  | 0 => 0
  | n + 1 => sumN f n + f n
theorem sumN_sub (f g : Nat → Int) : ∀ n, sumN (fun k => f k - g k) n = sumN f n - sumN g n
  | 0 => rfl
  | n + 1 => by simp only [sumN]; rw [sumN_sub f g n]; omega
theorem sumN_shift (P : Nat → Int) (l : Nat) : ∀ n, sumN (fun k => P (k + (l + 1))) n = sumN (fun k => P (k + l)) n - P l + P (n + l)
  | 0 => by simp [sumN]; omega
  | n + 1 => by
    simp only [sumN]
    rw [sumN_shift P l n, show n + (l + 1) = n + 1 + l by omega]
    omega
/-- the counts ahead of a word that goes round -/
structure Per (P : Nat → Int) (b : Nat) (a : Int) : Prop where
  b0 : 0 < b
  z : P 0 = 0
  per : ∀ k, k ≤ b → P (k + b) = P k + a
theorem Per.shift {P : Nat → Int} {b : Nat} {a : Int} (h : Per P b a) : ∀ l, l ≤ b → sumN (fun k => P (k + l)) b = sumN P b + a * l
  | 0, _ => by simp
  | l + 1, hl => by
    rw [sumN_shift, h.shift l (by omega), show b + l = l + b by omega, h.per l (by omega), Int.natCast_add, Int.mul_add]
    omega
def win (P : Nat → Int) (l k : Nat) : Int := P (k + l) - P k
theorem Per.wins {P : Nat → Int} {b : Nat} {a : Int} (h : Per P b a) {l : Nat} (hl : l ≤ b) : sumN (win P l) b = a * l := by
  have := sumN_sub (fun k => P (k + l)) P b
  rw [h.shift l hl] at this
  show sumN (fun k => P (k + l) - P k) b = a * l
  omega
theorem sumN_low {f : Nat → Int} {c : Int} : ∀ n, (∀ k, k < n → c ≤ f k) → c * n ≤ sumN f n
  | 0, _ => by simp [sumN]
  | n + 1, h => by
    have h1 := sumN_low n fun k hk => h k (by omega)
    have h2 := h n (by omega)
    simp only [sumN, Int.natCast_add, Int.mul_add]
    omega
theorem sumN_low1 {f : Nat → Int} {c d : Int} {j : Nat} (hj : c + d ≤ f j) : ∀ n, j < n → (∀ k, k < n → c ≤ f k) → c * n + d ≤ sumN f n
  | 0, h, _ => by omega
  | n + 1, hn, h => by
    have h2 := h n (by omega)
    simp only [sumN, Int.natCast_add, Int.mul_add]
    rcases Nat.lt_or_ge j n with z | z
    · have := sumN_low1 hj n z fun k hk => h k (by omega)
      omega
    · have : j = n := by omega
      subst this
      have := sumN_low j fun k hk => h k (by omega)
      omega
def off (P : Nat → Int) (b : Nat) (a : Int) (k : Nat) : Int := b * P k - a * k
theorem off_win {P : Nat → Int} {b : Nat} {a : Int} {l k : Nat} : (b : Int) * win P l k = a * l + (off P b a (k + l) - off P b a k) := by
  unfold win off
  rw [Int.mul_sub, Int.natCast_add, Int.mul_add]
  omega
theorem Per.off_per {P : Nat → Int} {b : Nat} {a : Int} (h : Per P b a) {k : Nat} (hk : k ≤ b) : off P b a (k + b) = off P b a k := by
  unfold off
  rw [h.per k hk, Int.mul_add, Int.natCast_add, Int.mul_add, Int.mul_comm a (b : Int)]
  omega
/-- windows that differ by one at most: offsets that differ by less than b -/
theorem Per.conv {P : Nat → Int} {b : Nat} {a : Int} (h : Per P b a) (hw : ∀ l, 1 ≤ l → l < b → ∀ i j, i < b → j < b → win P l i - win P l j ≤ 1) {i j : Nat} (hi : i < b) (hj : j < b) : off P b a i - off P b a j < b := by
  rcases Int.lt_or_le (off P b a i - off P b a j) b with z | z
  · exact z
  exfalso
  have hb := h.b0
  have key : ∃ l, 1 ≤ l ∧ l < b ∧ off P b a (j + l) = off P b a i := by
    rcases Nat.lt_trichotomy i j with q | q | q
    · exact ⟨i + b - j, by omega, by omega, by rw [show j + (i + b - j) = i + b by omega, h.off_per (by omega)]⟩
    · subst q; omega
    · exact ⟨i - j, by omega, by omega, by rw [show j + (i - j) = i by omega]⟩
  obtain ⟨l, l1, l2, e⟩ := key
  have ej := off_win (P := P) (b := b) (a := a) (l := l) (k := j)
  rw [e] at ej
  -- every window is at least this one less one
  have all : ∀ k, k < b → a * l ≤ b * win P l k := fun k hk => by
    have h1 := hw l l1 l2 j k hj hk
    have h2 : (b : Int) * (win P l j - 1) ≤ b * win P l k := Int.mul_le_mul_of_nonneg_left (by omega) (by omega)
    rw [Int.mul_sub] at h2
    omega
  have tot := sumN_low1 (f := fun k => (b : Int) * win P l k) (c := a * l) (d := b) (j := j) (by show a * l + b ≤ b * win P l j; omega) b hj all
  have lin : ∀ n, sumN (fun k => (b : Int) * win P l k) n = b * sumN (win P l) n := fun n => by
    induction n with
    | zero => simp [sumN]
    | succ n ih => simp only [sumN]; rw [ih, Int.mul_add]
  rw [lin, h.wins (by omega), Int.mul_comm (a * l) (b : Int)] at tot
  omega
/-- offsets near together: the counts are those of the formula -/
theorem floor_of {b : Nat} {a : Int} {k : Nat} {p g : Int} (h1 : (b : Int) * p - a * k ≤ g) (h2 : g - b < (b : Int) * p - a * k) : (a * k + g) / b = p := by
  have hb : (0 : Int) < b := by omega
  have h3 : (a * k + g) = (a * k + g - b * p) + b * p := by omega
  rw [h3, Int.add_mul_ediv_left _ _ (by omega), Int.ediv_eq_zero_of_lt (by omega) (by omega)]
  omega
theorem floor_le {b : Nat} {a : Int} {k : Nat} {g : Int} (hb : 0 < b) : (b : Int) * ((a * k + g) / b) - a * k ≤ g := by
  have := Int.mul_ediv_self_le (x := a * k + g) (k := (b : Int)) (by omega)
  omega
theorem floor_win {b : Nat} {x y : Int} (hb : 0 < b) : (x + y) / b - x / b = y / b ∨ (x + y) / b - x / b = y / b + 1 := by
  have e1 := Int.mul_ediv_add_emod x b
  have e2 := Int.mul_ediv_add_emod y b
  have p1 := Int.emod_nonneg x (b := b) (by omega)
  have p2 := Int.emod_nonneg y (b := b) (by omega)
  have l1 := Int.emod_lt_of_pos x (b := b) (by omega)
  have l2 := Int.emod_lt_of_pos y (b := b) (by omega)
  have e3 : x + y = (x % b + y % b) + b * (x / b + y / b) := by rw [Int.mul_add]; omega
  rw [e3, Int.add_mul_ediv_left _ _ (by omega)]
  have q : (x % b + y % b) / b = 0 ∨ (x % b + y % b) / b = 1 := by
    rcases Int.lt_or_le (x % b + y % b) b with z | z
    · left; exact Int.ediv_eq_zero_of_lt (by omega) z
    · right
      rw [show x % b + y % b = (x % b + y % b - b) + b * 1 by omega, Int.add_mul_ediv_left _ _ (by omega), Int.ediv_eq_zero_of_lt (by omega) (by omega)]
      rfl
  omega
/-- the counts of the formula: windows differ by one at most -/
theorem even_wins {P : Nat → Int} {b : Nat} {a g : Int} (hb : 0 < b) {m : Nat} (hP : ∀ k, k ≤ m → P k = (a * k + g) / b) {l i j : Nat} (hi : i + l ≤ m) (hj : j + l ≤ m) : win P l i - win P l j ≤ 1 := by
  have hh : ∀ i, i + l ≤ m → win P l i = (a * l) / b ∨ win P l i = (a * l) / b + 1 := fun i hi => by
    unfold win
    rw [hP _ hi, hP i (by omega), show a * ((i + l : Nat) : Int) + g = (a * i + g) + a * l by rw [Int.natCast_add, Int.mul_add]; omega]
    exact floor_win hb
  have h1 := hh i hi
  have h2 := hh j hj
  omega
end ShW
namespace ShW
/-! ### plain facts: places of ones; two calendars of one rule -/
theorem ediv_is {x b q : Int} (hb : 0 < b) (h1 : b * q ≤ x) (h2 : x < b * q + b) : x / b = q := by
  rw [show x = (x - b * q) + b * q by omega, Int.add_mul_ediv_left _ _ (by omega), Int.ediv_eq_zero_of_lt (by omega) (by omega)]
  omega
theorem place_ok {a b c j : Int} (ha : 0 < a) (hab : a ≤ b) : (a * ((b * (j + 1) - c - 1) / a) + c) / b = j ∧ (a * ((b * (j + 1) - c - 1) / a + 1) + c) / b = j + 1 := by
  have e := Int.mul_ediv_add_emod (b * (j + 1) - c - 1) a
  have p := Int.emod_nonneg (b * (j + 1) - c - 1) (b := a) (by omega)
  have l := Int.emod_lt_of_pos (b * (j + 1) - c - 1) ha
  generalize (b * (j + 1) - c - 1) / a = q at *
  generalize (b * (j + 1) - c - 1) % a = r at *
  rw [Int.mul_add] at e
  constructor
  · exact ediv_is (by omega) (by omega) (by omega)
  · rw [Int.mul_add]
    exact ediv_is (by omega) (by rw [Int.mul_add]; omega) (by rw [Int.mul_add]; omega)
def gap (a b c d n : Int) : Int := (a * n + c) / b - (a * n + d) / b
/-- the rest of a*n and what stands at it -/
theorem gap_eq {a b c d n : Int} (hb : 0 < b) : gap a b c d n = (a * n % b + c) / b - (a * n % b + d) / b := by
  unfold gap
  have e := Int.mul_ediv_add_emod (a * n) b
  rw [show a * n + c = (a * n % b + c) + b * (a * n / b) by omega, show a * n + d = (a * n % b + d) + b * (a * n / b) by omega, Int.add_mul_ediv_left _ _ (by omega), Int.add_mul_ediv_left _ _ (by omega)]
  omega
theorem step01 {b r c : Int} (hb : 0 < b) (r0 : 0 ≤ r) (r1 : r < b) (c0 : 0 ≤ c) (c1 : c < b) : (r + c) / b = if b ≤ r + c then 1 else 0 := by
  split
  · exact ediv_is hb (by omega) (by omega)
  · exact ediv_is hb (by omega) (by omega)
theorem bez (a b : Nat) : ∃ x y : Int, (Nat.gcd a b : Int) = a * x + b * y := by
  induction a, b using Nat.gcd.induction with
  | H0 n => exact ⟨0, 1, by simp⟩
  | H1 m n hm ih =>
    obtain ⟨x, y, h⟩ := ih
    rw [← Nat.gcd_rec] at h
    refine ⟨y - (n / m : Nat) * x, x, ?_⟩
    have e : ((n % m : Nat) : Int) = (n : Int) - m * (n / m : Nat) := by
      have := Nat.div_add_mod n m
      have := Int.ofNat_inj.mpr this
      rw [Int.natCast_add, Int.natCast_mul] at this
      omega
    rw [h, e, Int.sub_mul, Int.mul_sub, Int.mul_assoc]
    omega
/-- every multiple of the gcd is a rest -/
theorem rest_hit (a b : Nat) (hb : 0 < b) (m : Int) (hm0 : 0 ≤ (Nat.gcd a b : Int) * m) (hm1 : (Nat.gcd a b : Int) * m < b) : ∃ n : Int, 0 ≤ n ∧ n < b ∧ (a : Int) * n % b = Nat.gcd a b * m := by
  obtain ⟨x, y, hg⟩ := bez a b
  refine ⟨(x * m) % b, Int.emod_nonneg _ (by omega), Int.emod_lt_of_pos _ (by omega), ?_⟩
  rw [Int.mul_emod, Int.emod_emod_of_dvd _ (Int.dvd_refl (b : Int)), ← Int.mul_emod]
  have e : (a : Int) * (x * m) = Nat.gcd a b * m + b * (-(y * m)) := by
    rw [hg, Int.add_mul, Int.mul_neg, Int.mul_assoc, Int.mul_assoc]
    omega
  rw [e, Int.add_mul_emod_self_left, Int.emod_eq_of_lt hm0 hm1]
theorem rest_mul (a b : Nat) (n : Int) : ∃ m : Int, (a : Int) * n % b = Nat.gcd a b * m := by
  have h1 : ((Nat.gcd a b : Nat) : Int) ∣ (a : Int) := Int.natCast_dvd_natCast.mpr (Nat.gcd_dvd_left a b)
  have h2 : ((Nat.gcd a b : Nat) : Int) ∣ (b : Int) := Int.natCast_dvd_natCast.mpr (Nat.gcd_dvd_right a b)
  rw [Int.emod_def]
  exact Int.dvd_sub (Int.dvd_mul_of_dvd_left h1) (Int.dvd_mul_of_dvd_left h2)
/-- one calendar is never behind; where it is ahead -/
theorem gaps_le {a b : Nat} {c d : Int} (hb : 0 < b) (c0 : 0 ≤ c) (c1 : c < b) (d0 : 0 ≤ d) (d1 : d < b) {n : Int} : gap a b c d n = (if (b : Int) ≤ (a : Int) * n % b + c then 1 else 0) - (if (b : Int) ≤ (a : Int) * n % b + d then 1 else 0) := by
  have r0 := Int.emod_nonneg ((a : Int) * n) (b := b) (by omega)
  have r1 := Int.emod_lt_of_pos ((a : Int) * n) (b := b) (by omega)
  rw [gap_eq (by omega), step01 (by omega) r0 r1 c0 c1, step01 (by omega) r0 r1 d0 d1]
theorem gap_one {a b : Nat} {c d : Int} (hb : 0 < b) (c0 : 0 ≤ c) (c1 : c < b) (d0 : 0 ≤ d) (d1 : d < b) {n : Int} (h : gap a b c d n = 1) : d / (Nat.gcd a b : Int) < c / (Nat.gcd a b : Int) := by
  have hg : 0 < Nat.gcd a b := Nat.gcd_pos_of_pos_right _ hb
  rw [gaps_le hb c0 c1 d0 d1] at h
  obtain ⟨m, hm⟩ := rest_mul a b n
  obtain ⟨B, hB⟩ := Nat.gcd_dvd_right a b
  have hB' : (b : Int) = (Nat.gcd a b : Int) * (B : Int) := by rw [← Int.natCast_mul, ← hB]
  generalize (Nat.gcd a b) = g at *
  rw [hm] at h
  have k1 : (b : Int) ≤ (g : Int) * m + c ∧ ¬ (b : Int) ≤ (g : Int) * m + d := by
    by_cases p : (b : Int) ≤ (g : Int) * m + c <;> by_cases q : (b : Int) ≤ (g : Int) * m + d <;> simp [p, q] at h ⊢
  obtain ⟨k1, k2⟩ := k1
  have e1 : (g : Int) * ((B : Int) - m) ≤ c := by rw [Int.mul_sub]; omega
  have e2 : d < (g : Int) * ((B : Int) - m) := by rw [Int.mul_sub]; omega
  have f1 : (B : Int) - m ≤ c / g := Int.le_ediv_of_mul_le (by omega) (by rw [Int.mul_comm]; exact e1)
  have f2 : d / g < (B : Int) - m := Int.ediv_lt_of_lt_mul (by omega) (by rw [Int.mul_comm]; exact e2)
  omega
theorem gap_hit {a b : Nat} {c d : Int} (hb : 0 < b) (c0 : 0 ≤ c) (c1 : c < b) (d0 : 0 ≤ d) (d1 : d < b) (h : d / (Nat.gcd a b : Int) < c / (Nat.gcd a b : Int)) : ∃ n : Int, 0 ≤ n ∧ n < b ∧ gap a b c d n = 1 := by
  have hg : 0 < Nat.gcd a b := Nat.gcd_pos_of_pos_right _ hb
  obtain ⟨B, hB⟩ := Nat.gcd_dvd_right a b
  have hB' : (b : Int) = (Nat.gcd a b : Int) * (B : Int) := by rw [← Int.natCast_mul, ← hB]
  have e1 := Int.mul_ediv_self_le (x := c) (k := (Nat.gcd a b : Int)) (by omega)
  have e2 := Int.lt_mul_ediv_self_add (x := d) (k := (Nat.gcd a b : Int)) (by omega)
  have q0 : 0 ≤ d / (Nat.gcd a b : Int) := Int.ediv_nonneg d0 (by omega)
  have e3 : (Nat.gcd a b : Int) * (d / (Nat.gcd a b : Int) + 1) ≤ (Nat.gcd a b : Int) * (c / (Nat.gcd a b : Int)) := Int.mul_le_mul_of_nonneg_left (by omega) (by omega)
  rw [Int.mul_add] at e3
  have e4 : (Nat.gcd a b : Int) * 1 ≤ (Nat.gcd a b : Int) * (c / (Nat.gcd a b : Int)) := Int.mul_le_mul_of_nonneg_left (by omega) (by omega)
  have e5 : (Nat.gcd a b : Int) * ((B : Int) - c / (Nat.gcd a b : Int)) = b - (Nat.gcd a b : Int) * (c / (Nat.gcd a b : Int)) := by rw [Int.mul_sub]; omega
  obtain ⟨n, n0, n1, hn⟩ := rest_hit a b hb ((B : Int) - c / (Nat.gcd a b : Int)) (by omega) (by omega)
  refine ⟨n, n0, n1, ?_⟩
  rw [gaps_le hb c0 c1 d0 d1, hn, if_pos (by omega), if_neg (by omega)]
  rfl
theorem gap_neg {a b c d n : Int} : gap a b c d n = - gap a b d c n := by unfold gap; omega
theorem gap_rng {a b : Nat} {c d : Int} (hb : 0 < b) (c0 : 0 ≤ c) (c1 : c < b) (d0 : 0 ≤ d) (d1 : d < b) (n : Int) : -1 ≤ gap a b c d n ∧ gap a b c d n ≤ 1 := by
  rw [gaps_le hb c0 c1 d0 d1]
  by_cases p : (b : Int) ≤ (a : Int) * n % b + c <;> by_cases q : (b : Int) ≤ (a : Int) * n % b + d <;> simp [p, q]
theorem gap_zero {a b : Nat} {c d : Int} (hb : 0 < b) (c0 : 0 ≤ c) (c1 : c < b) (d0 : 0 ≤ d) (d1 : d < b) : gap a b c d 0 = 0 := by
  unfold gap
  rw [Int.mul_zero, Int.zero_add, Int.zero_add, Int.ediv_eq_zero_of_lt c0 c1, Int.ediv_eq_zero_of_lt d0 d1]
  rfl
/-- what apart tells -/
def apartV (a b : Nat) (c d : Int) : Int × Int :=
  if c / (Nat.gcd a b : Int) > d / (Nat.gcd a b : Int) then (0, 1) else if c / (Nat.gcd a b : Int) < d / (Nat.gcd a b : Int) then (-1, 0) else (0, 0)
theorem apart_low {a b : Nat} {c d : Int} (hb : 0 < b) (c0 : 0 ≤ c) (c1 : c < b) (d0 : 0 ≤ d) (d1 : d < b) : (∀ n : Int, (apartV a b c d).1 ≤ gap a b c d n ∧ gap a b c d n ≤ (apartV a b c d).2) ∧ (∃ n : Nat, n < b ∧ gap a b c d n = (apartV a b c d).1) ∧ ∃ n : Nat, n < b ∧ gap a b c d n = (apartV a b c d).2 := by
  have z := gap_zero (a := a) hb c0 c1 d0 d1
  have toN : ∀ {v : Int}, (∃ n : Int, 0 ≤ n ∧ n < b ∧ gap a b c d n = v) → ∃ n : Nat, n < b ∧ gap a b c d n = v := fun ⟨n, n0, n1, h⟩ => by
    obtain ⟨m, rfl⟩ := Int.eq_ofNat_of_zero_le n0
    exact ⟨m, by omega, h⟩
  have zN : ∃ n : Nat, n < b ∧ gap a b c d n = 0 := ⟨0, hb, z⟩
  have r := fun n => gap_rng (a := a) hb c0 c1 d0 d1 n
  have up : ∀ n, gap a b c d n = 1 → d / (Nat.gcd a b : Int) < c / (Nat.gcd a b : Int) := fun n h => gap_one hb c0 c1 d0 d1 h
  have dn : ∀ n, gap a b c d n = -1 → c / (Nat.gcd a b : Int) < d / (Nat.gcd a b : Int) := fun n h => gap_one hb d0 d1 c0 c1 (n := n) (by rw [gap_neg]; omega)
  unfold apartV
  split
  · rename_i h
    refine ⟨fun n => ⟨?_, (r n).2⟩, zN, toN (gap_hit hb c0 c1 d0 d1 h)⟩
    have := r n
    have := dn n
    show (0 : Int) ≤ _
    omega
  · split
    · rename_i h
      obtain ⟨n, n0, n1, hn⟩ := gap_hit hb d0 d1 c0 c1 h
      refine ⟨fun n => ⟨(r n).1, ?_⟩, toN ⟨n, n0, n1, by rw [gap_neg, hn]⟩, zN⟩
      have := r n
      have := up n
      show _ ≤ (0 : Int)
      omega
    · refine ⟨fun n => ?_, zN, zN⟩
      have := r n
      have := up n
      have := dn n
      show (0 : Int) ≤ _ ∧ _ ≤ (0 : Int)
      omega
end ShW
namespace ShW
/-! ### words as lists -/
def pre (w : List Int) (k : Nat) : Int := ((w ++ w).take k).sum
theorem pre_le {w : List Int} {k : Nat} (h : k ≤ w.length) : pre w k = (w.take k).sum := by
  unfold pre
  rw [List.take_append_of_le_length h]
theorem pre_per {w : List Int} (h : 0 < w.length) : Per (pre w) w.length w.sum := by
  refine ⟨h, by simp [pre], fun k hk => ?_⟩
  rw [pre_le hk]
  unfold pre
  rw [Nat.add_comm, List.take_length_add_append, List.sum_append]
  omega
theorem pre_succ {w : List Int} {k : Nat} {x : Int} (h : (w ++ w)[k]? = some x) : pre w (k + 1) = pre w k + x := by
  unfold pre
  rw [List.take_succ, h, List.sum_append]
  simp
/-- the word of the formula -/
def ew (a : Int) (b : Nat) (c : Int) : List Int := (List.range b).map fun (k : Nat) => (a * ((k : Int) + 1) + c) / (b : Int) - (a * (k : Int) + c) / (b : Int)
theorem ew_len (a : Int) (b : Nat) (c : Int) : (ew a b c).length = b := by simp [ew]
theorem ew_pre {a : Int} {b : Nat} {c : Int} (c0 : 0 ≤ c) (c1 : c < b) : ∀ k, k ≤ b → ((ew a b c).take k).sum = (a * k + c) / b
  | 0, _ => by simp [Int.ediv_eq_zero_of_lt c0 c1]
  | k + 1, h => by
    have hg : (ew a b c)[k]? = some ((a * ((k : Int) + 1) + c) / (b : Int) - (a * (k : Int) + c) / (b : Int)) := by
      unfold ew
      rw [List.getElem?_map, List.getElem?_range (by omega)]
      rfl
    rw [List.take_succ, hg, List.sum_append, ew_pre c0 c1 k (by omega)]
    simp
    omega
theorem ew_bits {a : Int} {b : Nat} {c : Int} (a0 : 0 ≤ a) (a1 : a ≤ b) : ∀ x ∈ ew a b c, x = 0 ∨ x = 1 := by
  intro x hx
  obtain ⟨k, hk, rfl⟩ := List.mem_map.mp hx
  have hb : 0 < b := by have := List.mem_range.mp hk; omega
  have e : a * ((k : Int) + 1) + c = (a * k + c) + a := by rw [Int.mul_add]; omega
  rw [e]
  rcases Int.lt_or_le a b with z | z
  · have := floor_win (b := b) (x := a * k + c) (y := a) hb
    rw [Int.ediv_eq_zero_of_lt a0 z] at this
    omega
  · have : a = b := by omega
    subst this
    right
    rw [show (b : Int) * k + c + b = (b * k + c) + b * 1 by omega, Int.add_mul_ediv_left _ _ (by omega)]
    omega
/-- a word is told by its counts -/
theorem word_ext {v w : List Int} (hl : v.length = w.length) (h : ∀ k, k ≤ v.length → (v.take k).sum = (w.take k).sum) : v = w := by
  apply List.ext_getElem hl
  intro k h1 h2
  have e1 := h k (by omega)
  have e2 := h (k + 1) (by omega)
  rw [List.take_succ, List.take_succ, List.sum_append, List.sum_append, List.getElem?_eq_getElem h1, List.getElem?_eq_getElem h2] at e2
  simp at e2
  omega
theorem ew_eq_iff {w : List Int} {a c : Int} (c0 : 0 ≤ c) (c1 : c < w.length) : ew a w.length c = w ↔ ∀ k, k ≤ w.length → pre w k = (a * k + c) / w.length := by
  constructor
  · intro h k hk
    rw [pre_le hk]
    have := ew_pre (a := a) c0 c1 k hk
    rwa [h] at this
  · intro h
    refine word_ext (ew_len _ _ _) fun k hk => ?_
    rw [ew_len] at hk
    rw [ew_pre c0 c1 k hk, ← pre_le hk, h k hk]
def offw (w : List Int) (k : Nat) : Int := off (pre w) w.length w.sum k
/-- highest and lowest offset -/
structure Hi (w : List Int) (lo hi : Int) : Prop where
  le : ∀ k, k ≤ w.length → offw w k ≤ hi
  at_ : ∃ k, k < w.length ∧ offw w k = hi
  ge : ∀ k, k ≤ w.length → lo ≤ offw w k
  al : ∃ k, k < w.length ∧ offw w k = lo
theorem offw_0 (w : List Int) : offw w 0 = 0 := by simp [offw, off, pre]
theorem Hi.signs {w : List Int} {lo hi : Int} (h : Hi w lo hi) : lo ≤ 0 ∧ 0 ≤ hi := by
  have h1 := h.le 0 (by omega)
  have h2 := h.ge 0 (by omega)
  rw [offw_0] at h1 h2
  exact ⟨h2, h1⟩
/-- near offsets: the word is the formula's with the highest offset -/
theorem Hi.even {w : List Int} {lo hi : Int} (h : Hi w lo hi) (hn : hi - lo < w.length) : ew w.sum w.length hi = w := by
  have hs := h.signs
  rw [ew_eq_iff hs.2 (by omega)]
  intro k hk
  have h1 := h.le k hk
  have h2 := h.ge k hk
  unfold offw off at h1 h2
  exact (floor_of h1 (by omega)).symm
/-- and no smaller number does it -/
theorem Hi.least {w : List Int} {lo hi : Int} (h : Hi w lo hi) {c : Int} (c0 : 0 ≤ c) (c1 : c < w.length) (he : ew w.sum w.length c = w) : hi ≤ c := by
  rw [ew_eq_iff c0 c1] at he
  obtain ⟨k, hk, e⟩ := h.at_
  have := he k (by omega)
  have f := floor_le (b := w.length) (a := w.sum) (k := k) (g := c) (by omega)
  rw [← this] at f
  rw [← e]
  exact f
theorem Hi.wins {w : List Int} {lo hi : Int} (h : Hi w lo hi) (hn : hi - lo < w.length) {l i j : Nat} (hl : l ≤ w.length) (hi' : i < w.length) (hj : j < w.length) : win (pre w) l i - win (pre w) l j ≤ 1 := by
  have hs := h.signs
  have hP := (ew_eq_iff hs.2 (by omega)).mp (h.even hn)
  have hp := pre_per (w := w) (by omega)
  refine even_wins (b := w.length) (a := w.sum) (g := hi) (by omega) (m := w.length + w.length) (fun k hk => ?_) (by omega) (by omega)
  rcases Nat.lt_or_ge w.length k with z | z
  · obtain ⟨j, rfl⟩ : ∃ j, k = j + w.length := ⟨k - w.length, by omega⟩
    rw [hp.per j (by omega), hP j (by omega), Int.natCast_add, Int.mul_add, show w.sum * (j : Int) + w.sum * (w.length : Int) + hi = (w.sum * j + hi) + (w.length : Int) * w.sum by rw [Int.mul_comm (w.length : Int)]; omega, Int.add_mul_ediv_left _ _ (by omega)]
  · exact hP k z
theorem Hi.conv {w : List Int} {lo hi : Int} (h : Hi w lo hi) (hw : ∀ l, 1 ≤ l → l < w.length → ∀ i j, i < w.length → j < w.length → win (pre w) l i - win (pre w) l j ≤ 1) : hi - lo < w.length := by
  obtain ⟨i, hi', e1⟩ := h.at_
  obtain ⟨j, hj, e2⟩ := h.al
  rw [← e1, ← e2]
  exact (pre_per (w := w) (by omega)).conv hw hi' hj
end ShW
namespace ShW
open PySem L2 DL PyProof.Rows Md Sh
noncomputable abbrev spN (l n : Nat) (m : En → Out) : Sf := specR (fun cs => cs.length = l) n m
theorem spN_sem {l n : Nat} {m : En → Out} : ∀ cs c outs, spN l n m cs = .ok (c, outs) → cs.length = l ∧ runD n m cs = .ok (c, outs) := specR_sem fun _ h => h
theorem spN_r {l n : Nat} {m : En → Out} {cs : List Ce} {r : Rs (Ce × List Ce)} (hl : cs.length = l) (h : runD n m cs = r) : spN l n m cs = r := (specR_ok hl).trans h
def wD (w : List Int) : D := .tuple (w.map .int)
def Sm (i : Int) : Prop := -(2 ^ 64) < i ∧ i < 2 ^ 64
noncomputable def S_count : Sf := spN 4 4 m_count
theorem sem_count : ∀ cs c outs, S_count cs = .ok (c, outs) → cs.length = 4 ∧ runD 4 m_count cs = .ok (c, outs) := spN_sem
theorem divS {b : Int} (h : 0 < b) (h2 : b < 2 ^ 64) : DivOk b := divOk_of (n := 64) h h2 (by decide)
theorem count_r {a b c n : Int} (ha : Sm a) (hb : 0 < b) (hb2 : b < 2 ^ 64) : S_count [.f (.int a), .f (.int b), .f (.int c), .f (.int n)] = .ok (.f (.int ((a * n + c) / b)), []) := spN_r rfl (by
  have m : MulOk a n := mulOk_l ha.1 ha.2
  simp [runD_r, startE, m_count, mulD_i m, fdivD_i (divS hb hb2)])
noncomputable def S_place_of_one : Sf := spN 4 4 m_place_of_one
theorem sem_place_of_one : ∀ cs c outs, S_place_of_one cs = .ok (c, outs) → cs.length = 4 ∧ runD 4 m_place_of_one cs = .ok (c, outs) := spN_sem
theorem place_r {a b c j : Int} (ha : 0 < a) (ha2 : a < 2 ^ 64) (hb : Sm b) : S_place_of_one [.f (.int a), .f (.int b), .f (.int c), .f (.int j)] = .ok (.f (.int ((b * (j + 1) - c - 1) / a)), []) := spN_r rfl (by
  have m : MulOk b (j + 1) := mulOk_l hb.1 hb.2
  simp [runD_r, startE, m_place_of_one, mulD_i m, fdivD_i (divS ha ha2)])
theorem ew_D (a : Int) (b : Nat) (c : Int) : (ew a b c).map D.int = (List.range b).map fun (k : Nat) => D.int ((a * ((k : Int) + 1) + c) / (b : Int) - (a * (k : Int) + c) / (b : Int)) := by
  unfold ew
  rw [List.map_map]
  rfl
theorem hz_of {n : Nat} (h : n < 10000) : n < 16000000 := by omega
noncomputable def S_even_word : Sf := spN 3 7 (m_even_word S_count)
theorem sem_even_word : ∀ cs c outs, S_even_word cs = .ok (c, outs) → cs.length = 3 ∧ runD 7 (m_even_word S_count) cs = .ok (c, outs) := spN_sem
/-- the counts ahead -/
def ah (a : Int) (b : Nat) (c : Int) : List D := (List.range (b + 1)).map fun (k : Nat) => D.int ((a * (k : Int) + c) / (b : Int))
theorem ah_get {a c : Int} {b k : Nat} (h : k < b + 1) : (ah a b c)[k]? = some (D.int ((a * (k : Int) + c) / (b : Int))) := by
  unfold ah
  rw [List.getElem?_map, List.getElem?_range h]
  rfl
theorem ah_len (a c : Int) (b : Nat) : (ah a b c).length = b + 1 := by simp [ah]
theorem ah_cut (a c : Int) (b : Nat) : DL.cutD (ah a b c) (some 1) none = (ah a b c).drop 1 := by
  unfold DL.cutD HT.sIx
  simp only [ah_len]
  rw [show (1 : Int).toNat = 1 from rfl]
  have : min 1 (b + 1) = 1 := by omega
  simp
  rw [List.take_of_length_le (by simp [ah_len])]
theorem ah_zip (a c : Int) (b : Nat) : ziD (ah a b c) ((ah a b c).drop 1) = (List.range b).map fun (k : Nat) => D.tupW [.int ((a * (k : Int) + c) / (b : Int)), .int ((a * ((k : Int) + 1) + c) / (b : Int))] := by
  apply List.ext_getElem?
  intro k
  rw [ziD_get, List.getElem?_drop, List.getElem?_map]
  rcases Nat.lt_or_ge k b with h | h
  · rw [ah_get (by omega), ah_get (show 1 + k < b + 1 by omega), List.getElem?_range h]
    simp [Int.add_comm]
  · have e1 : (List.range b)[k]? = none := by rw [List.getElem?_eq_none (by simp; omega)]
    have e2 : (ah a b c)[1 + k]? = none := by rw [List.getElem?_eq_none (by rw [ah_len]; omega)]
    rw [e1, e2]
    cases (ah a b c)[k]? <;> rfl
theorem ew_c1 {a c : Int} {b : Nat} (ha : Sm a) (hb : 0 < b) (hb2 : b < 1000) : mComp (mRng1 (aCons (mZ (m2 addD (mH (mN (mVar 1))) (mH (mN (mC (.int 1)))))) aNil)) (tgN 4) [4] mYes (m_even_word_e1 S_count) [some (.f (.int a)), some (.f (.int (b : Int))), some (.f (.int c)), none, none, none, none] = .ok (.l false (ah a b c), [some (.f (.int a)), some (.f (.int (b : Int))), some (.f (.int c)), none, none, none, none]) := by
  refine comp_rg (n := b + 1) _ (by simp) (tgOk_n 4) (by simp) (by simp) (hz_of (by omega)) fun k hk => ?_
  have h := count_r (a := a) (b := b) (c := c) (n := k) ha (by omega) (by omega)
  exact ⟨[some (.f (.int a)), some (.f (.int (b : Int))), some (.f (.int c)), none, some (.f (.int (k : Int))), none, none], by simp [wipeE], by simp [m_even_word_e1, h]⟩
theorem ew_c2 {a c : Int} {b : Nat} (hb2 : b < 1000) : mComp (mZip (mVar 3) (mZ (mSlice (mH (mN (mVar 3))) (mO1 (mC (.int 1))) mO0))) (tgT [(tgN 5), (tgN 6)]) [5, 6] mYes m_even_word_e2 [some (.f (.int a)), some (.f (.int (b : Int))), some (.f (.int c)), some (.f (.list (ah a b c))), none, none, none] = .ok (.l false ((ew a b c).map .int), [some (.f (.int a)), some (.f (.int (b : Int))), some (.f (.int c)), some (.f (.list (ah a b c))), none, none, none]) := by
  rw [ew_D]
  refine mComp_of (List.range b) (fun (k : Nat) => D.tupW [.int ((a * (k : Int) + c) / (b : Int)), .int ((a * ((k : Int) + 1) + c) / (b : Int))]) _ ?_ (tgOk_t (.cons (tgOk_n 5) (.cons (tgOk_n 6) .nil))) (by simp) (by simp) (hz_of (by rw [List.length_range]; omega)) fun k hk => ?_
  · rw [← ah_zip]
    have h1 : slD (.list (ah a b c)) (some 1) none = .ok (.l false ((ah a b c).drop 1)) := by
      rw [← ah_cut]
      rfl
    simp [h1]
  · exact ⟨[some (.f (.int a)), some (.f (.int (b : Int))), some (.f (.int c)), some (.f (.list (ah a b c))), none, some (.f (.int ((a * (k : Int) + c) / (b : Int)))), some (.f (.int ((a * ((k : Int) + 1) + c) / (b : Int))))], by simp [wipeE], by simp [m_even_word_e2]⟩
theorem even_word_1 {z1 : M Ce} {a b c : D} {as : List D} (c1 : z1 [some (.f a), some (.f b), some (.f c), none, none, none, none] = .ok (.l false as, [some (.f a), some (.f b), some (.f c), none, none, none, none])) : sAsgF 3 (mZ z1) [some (.f a), some (.f b), some (.f c), none, none, none, none] = .nx [some (.f a), some (.f b), some (.f c), some (.f (.list as)), none, none, none] := by
  simp [c1]
theorem even_word_2 {z1 : M Ce} {e : En} {as : List D} (c1 : z1 e = .ok (.l false as, e)) : sRet (mL tupleD (aCons (mH z1) aNil)) e = .rt (.f (.tuple as)) e := by
  simp [c1]
theorem even_word_s {a c : Int} {b : Nat} (ha : Sm a) (hb : 0 < b) (hb2 : b < 1000) : m_even_word S_count [some (.f (.int a)), some (.f (.int (b : Int))), some (.f (.int c)), none, none, none, none] = .rt (.f (wD (ew a b c))) [some (.f (.int a)), some (.f (.int (b : Int))), some (.f (.int c)), some (.f (.list (ah a b c))), none, none, none] := by
  unfold m_even_word
  rw [seq_nx (even_word_1 (ew_c1 (c := c) ha hb hb2))]
  exact even_word_2 (ew_c2 (a := a) (c := c) hb2)
theorem even_word_r {a c : Int} {b : Nat} (ha : Sm a) (hb : 0 < b) (hb2 : b < 1000) : S_even_word [.f (.int a), .f (.int (b : Int)), .f (.int c)] = .ok (.f (wD (ew a b c)), []) := spN_r rfl (by
  rw [runD_r, show startE 7 [.f (.int a), .f (.int (b : Int)), .f (.int c)] = [some (.f (.int a)), some (.f (.int (b : Int))), some (.f (.int c)), none, none, none, none] from rfl, even_word_s ha hb hb2]
  rfl)
/-! ### windows that differ by more than one -/
def winL (w : List Int) (l : Nat) : List Int := (List.range w.length).map (win (pre w) l)
theorem winL_ne {w : List Int} (h : 0 < w.length) (l : Nat) : winL w l ≠ [] := by
  intro e
  have := congrArg List.length e
  simp [winL] at this
  rw [this] at h
  exact absurd h (by decide)
theorem winL_D (w : List Int) (l : Nat) : (winL w l).map D.int = (List.range w.length).map fun k => D.int (win (pre w) l k) := by
  unfold winL
  rw [List.map_map]
  rfl
/-- where it stands first -/
def fi (is : List Int) (i : Int) : Nat := is.findIdx (· == i)
theorem fi_some {is : List Int} {i : Int} (h : i ∈ is) : is.findIdx? (· == i) = some (fi is i) := by
  rw [List.findIdx?_eq_some_iff_findIdx_eq]
  exact ⟨List.findIdx_lt_length_of_exists ⟨i, h, beq_self_eq_true i⟩, rfl⟩
theorem fi_get {is : List Int} {i : Int} (h : i ∈ is) : is[fi is i]? = some i := by
  have hl : fi is i < is.length := List.findIdx_lt_length_of_exists ⟨i, h, beq_self_eq_true i⟩
  rw [List.getElem?_eq_getElem hl]
  have := List.findIdx_getElem (w := hl) (p := (· == i)) (xs := is)
  simp only [beq_iff_eq] at this
  rw [show is[fi is i] = i from this]
def hiW (w : List Int) (l : Nat) : Int := maxL (winL w l)
def loW (w : List Int) (l : Nat) : Int := minL (winL w l)
def bad (w : List Int) (l : Nat) : Bool := decide (hiW w l - loW w l > 1)
def iW (w : List Int) (l : Nat) : Nat := fi (winL w l) (loW w l)
def jW (w : List Int) (l : Nat) : Nat := fi (winL w l) (hiW w l)
structure Bits (w : List Int) : Prop where
  b0 : 0 < w.length
  b1 : w.length ≤ 400
  z1 : ∀ x ∈ w, x = 0 ∨ x = 1
section
variable {w : List Int} {l : Nat}
theorem hiW_mem (h : Bits w) : hiW w l ∈ winL w l := (maxL_mem (winL_ne h.b0 l)).1
theorem loW_mem (h : Bits w) : loW w l ∈ winL w l := (minL_mem (winL_ne h.b0 l)).1
theorem iW_ok (h : Bits w) : iW w l < w.length ∧ win (pre w) l (iW w l) = loW w l := by
  have g := fi_get (loW_mem (l := l) h)
  obtain ⟨hl, _⟩ := List.getElem?_eq_some_iff.mp g
  have hl2 : iW w l < w.length := by
    have := hl
    rw [show (winL w l).length = w.length by simp [winL]] at this
    exact this
  refine ⟨hl2, ?_⟩
  have : (winL w l)[iW w l]? = some (win (pre w) l (iW w l)) := by
    unfold winL
    rw [List.getElem?_map, List.getElem?_range hl2]
    rfl
  exact Option.some.inj (this.symm.trans g)
theorem jW_ok (h : Bits w) : jW w l < w.length ∧ win (pre w) l (jW w l) = hiW w l := by
  have g := fi_get (hiW_mem (l := l) h)
  obtain ⟨hl, _⟩ := List.getElem?_eq_some_iff.mp g
  have hl2 : jW w l < w.length := by
    have := hl
    rw [show (winL w l).length = w.length by simp [winL]] at this
    exact this
  refine ⟨hl2, ?_⟩
  have : (winL w l)[jW w l]? = some (win (pre w) l (jW w l)) := by
    unfold winL
    rw [List.getElem?_map, List.getElem?_range hl2]
    rfl
  exact Option.some.inj (this.symm.trans g)
theorem bad_iff (h : Bits w) : bad w l = false ↔ ∀ i j, i < w.length → j < w.length → win (pre w) l i - win (pre w) l j ≤ 1 := by
  have hm := (maxL_mem (winL_ne h.b0 l)).2
  have lm := (minL_mem (winL_ne h.b0 l)).2
  have mem : ∀ i, i < w.length → win (pre w) l i ∈ winL w l := fun i hi => List.mem_map.mpr ⟨i, List.mem_range.mpr hi, rfl⟩
  constructor
  · intro hb i j hi hj
    have h1 := hm _ (mem i hi)
    have h2 := lm _ (mem j hj)
    have h3 : ¬ hiW w l - loW w l > 1 := of_decide_eq_false hb
    unfold hiW loW at h3
    omega
  · intro ha
    have h1 := ha _ _ (jW_ok (l := l) h).1 (iW_ok (l := l) h).1
    rw [(jW_ok h).2, (iW_ok h).2] at h1
    exact decide_eq_false (by omega)
/-- the values that both tell -/
theorem max_r (h : Bits w) : maxD [.list ((winL w l).map .int)] = .ok (.f (.int (hiW w l))) := maxD_l (winL_ne h.b0 l)
theorem min_r (h : Bits w) : minD [.list ((winL w l).map .int)] = .ok (.f (.int (loW w l))) := minD_l (winL_ne h.b0 l)
theorem ixlo_r (h : Bits w) : indexD (.list ((winL w l).map .int)) (.int (loW w l)) = .ok (.f (.int (iW w l : Int))) := indexD_l (fi_some (loW_mem h))
theorem ixhi_r (h : Bits w) : indexD (.list ((winL w l).map .int)) (.int (hiW w l)) = .ok (.f (.int (jW w l : Int))) := indexD_l (fi_some (hiW_mem h))
end
/-- the first length of windows that differ -/
structure First (w : List Int) (l : Nat) : Prop where
  l1 : 1 ≤ l
  l2 : l < w.length
  bd : bad w l = true
  fst : ∀ j, 1 ≤ j → j < l → bad w j = false
theorem First.uniq {w : List Int} {l m : Nat} (h : First w l) (g : First w m) : l = m := by
  rcases Nat.lt_trichotomy l m with z | z | z
  · have := g.fst l h.l1 z
    rw [h.bd] at this
    cases this
  · exact z
  · have := h.fst m g.l1 z
    rw [g.bd] at this
    cases this
def NoBad (w : List Int) : Prop := ∀ j, 1 ≤ j → j < w.length → bad w j = false
theorem First.not {w : List Int} {l : Nat} (h : First w l) : ¬ NoBad w := fun g => by
  have := g l h.l1 h.l2
  rw [h.bd] at this
  cases this
/-! ### uneven -/
noncomputable def S_uneven : Sf := spN 1 5 m_uneven
theorem sem_uneven : ∀ cs c outs, S_uneven cs = .ok (c, outs) → cs.length = 1 ∧ runD 5 m_uneven cs = .ok (c, outs) := spN_sem
def presD (xs : List Int) : List D := (List.range (xs.length + 1)).map fun k => D.int (xs.take k).sum
theorem presD_len (xs : List Int) : (presD xs).length = xs.length + 1 := by simp [presD]
theorem presD_end (xs : List Int) : ∃ p, presD xs = p ++ [.int xs.sum] := by
  refine ⟨(List.range xs.length).map fun k => D.int (xs.take k).sum, ?_⟩
  unfold presD
  rw [List.range_succ, List.map_append]
  simp
theorem presD_app (xs : List Int) (x : Int) : presD (xs ++ [x]) = presD xs ++ [.int (xs.sum + x)] := by
  unfold presD
  rw [List.length_append, List.length_singleton, List.range_succ (n := xs.length + 1), List.map_append]
  congr 1
  · apply List.map_congr_left
    intro k hk
    have := List.mem_range.mp hk
    rw [List.take_append_of_le_length (by omega)]
  · simp [List.take_of_length_le, List.sum_append]
theorem presD_get {xs : List Int} {k : Nat} (h : k ≤ xs.length) : (presD xs)[k]? = some (.int (xs.take k).sum) := by
  unfold presD
  rw [List.getElem?_map, List.getElem?_range (by omega)]
  rfl
def eV (w : List Int) (as : List D) (c2 c3 c4 : Option D) : En := [some (.f (wD w)), some (.l false as), c2.map .f, c3.map .f, c4.map .f]
section
variable {w : List Int} {l : Nat} {c2 c3 c4 : Option D}
theorem un_app {p : List D} {s x : Int} (hz : p.length < 1000) : m_uneven_b1 (eV w (p ++ [.int s]) (some (.int x)) c3 c4) = .nx (eV w (p ++ [.int s] ++ [.int (s + x)]) (some (.int x)) c3 c4) := by
  have h1 := ixD_end p (.int s)
  have h2 : (p ++ [D.int s]).length < 16000000 := by
    rw [List.length_append, List.length_singleton]
    exact hz_of (by omega)
  generalize p ++ [D.int s] = q at *
  simp [m_uneven_b1, eV, h1, h2]
theorem un_loop1 (h : Bits w) : ∃ c2, loopL (tgN 2) m_uneven_b1 ((w ++ w).map .int) (eV w [.int 0] none none none) = .nx (eV w (presD (w ++ w)) c2 none none) := by
  have hb := h.b1
  obtain ⟨e', g1, ⟨c2, g2⟩, _⟩ := loopL_fold (t := tgN 2) (b := m_uneven_b1) (D.int) (fun (xs : List Int) e => ∃ c2, e = eV w (presD xs) c2 none none) (fun xs x => xs ++ [x]) (fun xs r => xs.length + r.length ≤ 800) (fun x r xs e hp ⟨c2, he⟩ => by
    obtain ⟨p, q⟩ := presD_end xs
    have hl := presD_len xs
    rw [q, List.length_append, List.length_singleton] at hl
    rw [List.length_cons] at hp
    refine ⟨eV w (presD xs) (some (.int x)) none none, _, by rw [he]; exact tgN_f (a := c2) rfl, ?_, ⟨some (.int x), rfl⟩, by rw [List.length_append, List.length_singleton]; omega⟩
    rw [presD_app, q]
    exact un_app (by omega)) (w ++ w) [] (eV w [.int 0] none none none) (by simp; omega) ⟨none, rfl⟩
  have e1 : (w ++ w).foldl (fun xs x => xs ++ [x]) [] = w ++ w := by
    have : ∀ (ys xs : List Int), ys.foldl (fun xs x => xs ++ [x]) xs = xs ++ ys := by
      intro ys
      induction ys with
      | nil => simp
      | cons y ys ih => intro xs; rw [List.foldl_cons, ih]; simp
    rw [this]
    rfl
  rw [e1] at g2
  exact ⟨c2, by rw [← g2]; exact g1⟩
theorem un_comp (h : Bits w) (hl : l ≤ w.length) : mComp (mRng1 (aCons (mZ (mL lenD (aCons (mH (mN (mVar 0))) aNil))) aNil)) (tgN 2) [2] mYes m_uneven_e1 (eV w (presD (w ++ w)) c2 (some (.int (l : Int))) c4) = .ok (.l false ((winL w l).map .int), eV w (presD (w ++ w)) c2 (some (.int (l : Int))) c4) := by
  rw [winL_D]
  have hn : lenD [wD w] = .ok (.f (.int (w.length : Int))) := by
    show Rs.ok (Ce.f (.int ((w.map D.int).length : Int))) = _
    rw [List.length_map]
  refine comp_rg (n := w.length) _ (by simp [eV, hn]) (tgOk_n 2) (by simp) (by cases c2 <;> simp [eV]) (hz_of (by have := h.b1; omega)) fun k hk => ?_
  refine ⟨[some (.f (wD w)), some (.l false (presD (w ++ w))), some (.f (.int (k : Int))), some (.f (.int (l : Int))), c4.map .f], by simp [wipeE, eV], ?_⟩
  have g1 : ixD (.list (presD (w ++ w))) (.int (k : Int)) = .ok (.f (.int (pre w k))) := ixD_lN (by omega) (by rw [Int.toNat_natCast]; exact presD_get (by simp; omega))
  have g2 : ixD (.list (presD (w ++ w))) (.int ((k : Int) + (l : Int))) = .ok (.f (.int (pre w (k + l)))) := ixD_lN (by omega) (by rw [show ((k : Int) + (l : Int)).toNat = k + l by omega]; exact presD_get (by simp; omega))
  generalize presD (w ++ w) = q at *
  simp [m_uneven_e1, g1, g2, win]
theorem un_set {as : List D} {z : M Ce} {is : List Int} (hz : z (eV w as c2 (some (.int (l : Int))) c4) = .ok (.l false (is.map .int), eV w as c2 (some (.int (l : Int))) c4)) : sAsgF 4 (mZ z) (eV w as c2 (some (.int (l : Int))) c4) = .nx (eV w as c2 (some (.int (l : Int))) (some (.list (is.map .int)))) := by
  have e1 : (eV w as c2 (some (.int (l : Int))) c4).set 4 (some (.f (.list (is.map .int)))) = eV w as c2 (some (.int (l : Int))) (some (.list (is.map .int))) := rfl
  have hio : ioAt (eV w as c2 (some (.int (l : Int))) c4) 4 = false := ioAt_f (a := c4) rfl
  simp [hz, hio, e1]
theorem un_no {as : List D} (h : Bits w) (hb : ¬ hiW w l - loW w l > 1) {s : En → Out} : sIf (mBool (m2 gtD (mH (m2 subD (mH (mL maxD (aCons (mH (mN (mVar 4))) aNil))) (mH (mL minD (aCons (mH (mN (mVar 4))) aNil))))) (mH (mN (mC (.int 1)))))) s sNext (eV w as c2 (some (.int (l : Int))) (some (.list ((winL w l).map .int)))) = .nx (eV w as c2 (some (.int (l : Int))) (some (.list ((winL w l).map .int)))) := by
  have h1 := max_r (l := l) h
  have h2 := min_r (l := l) h
  generalize winL w l = ws at *
  simp [eV, h1, h2, hb]
theorem un_yes {as : List D} (h : Bits w) (hb : hiW w l - loW w l > 1) : sIf (mBool (m2 gtD (mH (m2 subD (mH (mL maxD (aCons (mH (mN (mVar 4))) aNil))) (mH (mL minD (aCons (mH (mN (mVar 4))) aNil))))) (mH (mN (mC (.int 1)))))) (sRet (mN (mTup (aCons (mC (.str "uneven")) (aCons (mVar 3) (aCons (mZ (mIndex (mVar 4) (mZ (mL minD (aCons (mH (mN (mVar 4))) aNil))))) (aCons (mZ (mIndex (mVar 4) (mZ (mL maxD (aCons (mH (mN (mVar 4))) aNil))))) aNil))))))) sNext (eV w as c2 (some (.int (l : Int))) (some (.list ((winL w l).map .int)))) = .rt (.f (.tuple [.str "uneven", .int (l : Int), .int (iW w l : Int), .int (jW w l : Int)])) (eV w as c2 (some (.int (l : Int))) (some (.list ((winL w l).map .int)))) := by
  have h1 := max_r (l := l) h
  have h2 := min_r (l := l) h
  have h3 := ixlo_r (l := l) h
  have h4 := ixhi_r (l := l) h
  have ht : isT "list" (.list ((winL w l).map .int)) = true := rfl
  generalize winL w l = ws at *
  simp [eV, h1, h2, h3, h4, hb, ht]
theorem un_body (h : Bits w) (hl : l ≤ w.length) : (bad w l = false ∧ ∃ e2, m_uneven_b2 (eV w (presD (w ++ w)) c2 (some (.int (l : Int))) c4) = .nx e2 ∧ ∃ c2 c3 c4, e2 = eV w (presD (w ++ w)) c2 c3 c4) ∨ (bad w l = true ∧ ∃ e2, m_uneven_b2 (eV w (presD (w ++ w)) c2 (some (.int (l : Int))) c4) = .rt (.f (.tuple [.str "uneven", .int (l : Int), .int (iW w l : Int), .int (jW w l : Int)])) e2) := by
  unfold m_uneven_b2
  rw [seq_nx (un_set (un_comp h hl))]
  by_cases hb : hiW w l - loW w l > 1
  · exact .inr ⟨decide_eq_true hb, _, un_yes h hb⟩
  · exact .inl ⟨decide_eq_false hb, _, un_no h hb, _, _, _, rfl⟩
theorem un_loop (h : Bits w) (c2 : Option D) : (NoBad w ∧ ∃ c2' c3 c4, loopL (tgN 3) m_uneven_b2 (rgD 1 (w.length - 1)) (eV w (presD (w ++ w)) c2 none none) = .nx (eV w (presD (w ++ w)) c2' c3 c4)) ∨ ∃ l e', First w l ∧ loopL (tgN 3) m_uneven_b2 (rgD 1 (w.length - 1)) (eV w (presD (w ++ w)) c2 none none) = .rt (.f (.tuple [.str "uneven", .int (l : Int), .int (iW w l : Int), .int (jW w l : Int)])) e' := by
  have hb0 := h.b0
  rcases loop_first (b := m_uneven_b2) (i := 3) (n := w.length) (lo0 := 1) (P := bad w) (fun e => ∃ c2 c3 c4, e = eV w (presD (w ++ w)) c2 c3 c4) (fun l => .f (.tuple [.str "uneven", .int (l : Int), .int (iW w l : Int), .int (jW w l : Int)])) (fun k e h1 h2 ⟨c2, c3, c4, he⟩ => ⟨eV w (presD (w ++ w)) c2 (some (.int (k : Int))) c4, by rw [he]; exact tgN_f (a := c3) rfl, un_body h (by omega)⟩) (w.length - 1) 1 (by omega) (by omega) (eV w (presD (w ++ w)) c2 none none) ⟨c2, none, none, rfl⟩ with ⟨e', g1, ⟨c2', c3, c4, g2⟩, g3⟩ | ⟨k, e', g1, g2, g3, g4, g5⟩
  · exact .inl ⟨fun j j1 j2 => g3 j j1 j2, c2', c3, c4, by rw [← g2]; exact g1⟩
  · exact .inr ⟨k, e', ⟨g2, g3, g4, g5⟩, g1⟩
theorem add_ww (h : Bits w) : addD (wD w) (wD w) = .ok (.f (wD (w ++ w))) := by
  show (if (w.map D.int).length + (w.map D.int).length ≤ sizeLine then _ else _) = _
  rw [if_pos (sizeLine_ge _ (by simp; have := h.b1; omega))]
  unfold wD
  rw [List.map_append]
theorem un_s1 : sAsg 1 (mLst (aCons (mC (.int 0)) aNil)) [some (.f (wD w)), none, none, none, none] = .nx (eV w [.int 0] none none none) := by
  simp [eV]
theorem un_s2 (h : Bits w) : mSeqA (mZ (m2 addD (mH (mN (mVar 0))) (mH (mN (mVar 0))))) (eV w [.int 0] none none none) = .ok ((w ++ w).map .int, eV w [.int 0] none none none) := by
  have ha := add_ww h
  simp only [eV]
  have hi : (wD (w ++ w)).items = .ok ((w ++ w).map .int) := rfl
  generalize w ++ w = ww at *
  simp [ha, hi]
theorem un_s3 (h : Bits w) (as : List D) : mRng2 (aCons (mC (.int 1)) (aCons (mZ (mL lenD (aCons (mH (mN (mVar 0))) aNil))) aNil)) (eV w as c2 none none) = .ok (rgD 1 (w.length - 1), eV w as c2 none none) := by
  have hn : lenD [wD w] = .ok (.f (.int (w.length : Int))) := by
    show Rs.ok (Ce.f (.int ((w.map D.int).length : Int))) = _
    rw [List.length_map]
  exact rng2_n (lo := 1) (n := w.length) (by simp [eV, hn]) (by decide) (by have := h.b1; omega)
theorem uneven_none (h : Bits w) (hn : NoBad w) : S_uneven [.f (wD w)] = .ok (.f .none, []) := spN_r rfl (by
  obtain ⟨c2, g1⟩ := un_loop1 h
  rcases un_loop h c2 with ⟨_, c2', c3, c4, g⟩ | ⟨l, e', hf, _⟩
  · have key : m_uneven [some (.f (wD w)), none, none, none, none] = .rt (.f .none) (eV w (presD (w ++ w)) c2' c3 c4) := by
      unfold m_uneven
      rw [seq_nx un_s1, seq_nx ((for_rD (un_s2 h)).trans g1), seq_nx ((for_rD (un_s3 h _)).trans g)]
      simp
    rw [runD_r, show startE 5 [.f (wD w)] = [some (.f (wD w)), none, none, none, none] from rfl, key]
    rfl
  · exact (hf.not hn).elim)
theorem uneven_some (h : Bits w) (hf : First w l) : S_uneven [.f (wD w)] = .ok (.f (.tuple [.str "uneven", .int (l : Int), .int (iW w l : Int), .int (jW w l : Int)]), []) := spN_r rfl (by
  obtain ⟨c2, g1⟩ := un_loop1 h
  rcases un_loop h c2 with ⟨hn, _⟩ | ⟨m, e', hg, g⟩
  · exact (hf.not hn).elim
  · cases hf.uniq hg
    have key : m_uneven [some (.f (wD w)), none, none, none, none] = .rt (.f (.tuple [.str "uneven", .int (l : Int), .int (iW w l : Int), .int (jW w l : Int)])) e' := by
      unfold m_uneven
      rw [seq_nx un_s1, seq_nx ((for_rD (un_s2 h)).trans g1), seq_rt ((for_rD (un_s3 h _)).trans g)]
    rw [runD_r, show startE 5 [.f (wD w)] = [some (.f (wD w)), none, none, none, none] from rfl, key]
    rfl)
end
/-! ### words that are alike -/
theorem plA_ints (n : Nat) (w : List Int) : D.plA (n + 1) (w.map .int) = true := by
  induction w with
  | nil => rfl
  | cons i w ih => rw [List.map_cons, D.plA, ih]; rfl
theorem eqbA_ints : ∀ u w : List Int, D.eqbA (u.map .int) (w.map .int) = decide (u = w)
  | [], [] => rfl
  | [], _ :: _ => rfl
  | _ :: _, [] => rfl
  | i :: u, j :: w => by
    rw [List.map_cons, List.map_cons, D.eqbA, eqbA_ints u w]
    by_cases h1 : i = j
    · by_cases h2 : u = w
      · simp [h1, h2, D.eqb]
      · simp [h1, h2, D.eqb]
    · simp [h1, D.eqb]
theorem eq_w (u w : List Int) : eqD (wD u) (wD w) = .ok (.f (.bool (decide (u = w)))) := by
  unfold eqD wD
  have h1 : D.pl 60 (.tuple (u.map .int)) = true := plA_ints 59 u
  have h2 : D.pl 60 (.tuple (w.map .int)) = true := plA_ints 59 w
  have h3 : D.eqb (.tuple (u.map .int)) (.tuple (w.map .int)) = decide (u = w) := by rw [D.eqb, eqbA_ints]
  rw [h1, h2, h3]
  simp
theorem len_w (w : List Int) : lenD [wD w] = .ok (.f (.int (w.length : Int))) := by
  show Rs.ok (Ce.f (.int ((w.map D.int).length : Int))) = _
  rw [List.length_map]
theorem sum_w (w : List Int) : sumD [wD w] = .ok (.f (.int w.sum)) := sumD_t w
theorem bits_sum {w : List Int} (h : Bits w) : 0 ≤ w.sum ∧ w.sum ≤ w.length := by
  have : ∀ v : List Int, (∀ x ∈ v, x = 0 ∨ x = 1) → 0 ≤ v.sum ∧ v.sum ≤ v.length := by
    intro v
    induction v with
    | nil => intro _; simp
    | cons x v ih =>
      intro hx
      have := ih fun y hy => hx y (List.mem_cons_of_mem _ hy)
      have := hx x List.mem_cons_self
      rw [List.sum_cons, List.length_cons]
      omega
  exact this w h.z1
theorem bits_sm {w : List Int} (h : Bits w) : Sm w.sum := by
  have := bits_sum h
  have := h.b1
  exact ⟨by omega, by omega⟩
/-! ### evenness -/
noncomputable def S_evenness : Sf := spN 1 7 (m_evenness S_uneven)
theorem sem_evenness : ∀ cs c outs, S_evenness cs = .ok (c, outs) → cs.length = 1 ∧ runD 7 (m_evenness S_uneven) cs = .ok (c, outs) := spN_sem
/-- offsets of the first places -/
def ofp (b a : Int) (xs : List Int) (j : Nat) : Int := b * (xs.take j).sum - a * j
structure Hp' (b a : Int) (xs : List Int) (lo hi : Int) : Prop where
  le : ∀ j, j ≤ xs.length → ofp b a xs j ≤ hi
  ge : ∀ j, j ≤ xs.length → lo ≤ ofp b a xs j
  at_ : ∃ j, j ≤ xs.length ∧ ofp b a xs j = hi
  al : ∃ j, j ≤ xs.length ∧ ofp b a xs j = lo
theorem ofp_app {b a : Int} {xs : List Int} {x : Int} {j : Nat} (h : j ≤ xs.length) : ofp b a (xs ++ [x]) j = ofp b a xs j := by
  unfold ofp
  rw [List.take_append_of_le_length h]
theorem ofp_end {b a : Int} {xs : List Int} {x : Int} : ofp b a (xs ++ [x]) (xs.length + 1) = ofp b a xs xs.length + (b * x - a) := by
  unfold ofp
  rw [List.take_of_length_le (by simp), List.take_of_length_le (Nat.le_refl _), List.sum_append, Int.natCast_add, Int.mul_add, Int.mul_add]
  simp
  omega
theorem Hp'.app {b a : Int} {xs : List Int} {lo hi x : Int} (h : Hp' b a xs lo hi) :
    Hp' b a (xs ++ [x]) (if ofp b a xs xs.length + (b * x - a) < lo then ofp b a xs xs.length + (b * x - a) else lo) (if ofp b a xs xs.length + (b * x - a) > hi then ofp b a xs xs.length + (b * x - a) else hi) := by
  have e := ofp_end (b := b) (a := a) (xs := xs) (x := x)
  have hl : (xs ++ [x]).length = xs.length + 1 := by simp
  generalize ofp b a xs xs.length + (b * x - a) = v at *
  have old := fun j hj => ofp_app (b := b) (a := a) (xs := xs) (x := x) (j := j) hj
  refine ⟨fun j hj => ?_, fun j hj => ?_, ?_, ?_⟩
  · rcases Nat.lt_or_ge xs.length j with z | z
    · rw [show j = xs.length + 1 by omega, e]
      split <;> omega
    · rw [old j z]
      have := h.le j z
      split <;> omega
  · rcases Nat.lt_or_ge xs.length j with z | z
    · rw [show j = xs.length + 1 by omega, e]
      split <;> omega
    · rw [old j z]
      have := h.ge j z
      split <;> omega
  · split
    · exact ⟨xs.length + 1, by omega, e⟩
    · obtain ⟨j, j1, j2⟩ := h.at_
      exact ⟨j, by omega, by rw [old j j1]; exact j2⟩
  · split
    · exact ⟨xs.length + 1, by omega, e⟩
    · obtain ⟨j, j1, j2⟩ := h.al
      exact ⟨j, by omega, by rw [old j j1]; exact j2⟩
theorem Hp'.hi {w : List Int} {lo hi : Int} (hb : 0 < w.length) (h : Hp' w.length w.sum w lo hi) : Hi w lo hi := by
  have e : ∀ k, k ≤ w.length → offw w k = ofp w.length w.sum w k := fun k hk => by
    unfold offw off ofp
    rw [pre_le hk]
  have eb : ofp w.length w.sum w w.length = ofp w.length w.sum w 0 := by
    rw [← e _ (Nat.le_refl _), ← e 0 (by omega)]
    have := (pre_per hb).off_per (k := 0) (by omega)
    rw [Nat.zero_add] at this
    exact this
  refine ⟨fun k hk => by rw [e k hk]; exact h.le k hk, ?_, fun k hk => by rw [e k hk]; exact h.ge k hk, ?_⟩
  · obtain ⟨j, j1, j2⟩ := h.at_
    rcases Nat.lt_or_ge j w.length with z | z
    · exact ⟨j, z, by rw [e j j1]; exact j2⟩
    · have : j = w.length := by omega
      subst this
      exact ⟨0, hb, by rw [e 0 (by omega), ← eb]; exact j2⟩
  · obtain ⟨j, j1, j2⟩ := h.al
    rcases Nat.lt_or_ge j w.length with z | z
    · exact ⟨j, z, by rw [e j j1]; exact j2⟩
    · have : j = w.length := by omega
      subst this
      exact ⟨0, hb, by rw [e 0 (by omega), ← eb]; exact j2⟩
def eE (w : List Int) (o lo hi : Int) (c6 : Option D) : En := [some (.f (wD w)), some (.f (.int (w.length : Int))), some (.f (.int w.sum)), some (.f (.int o)), some (.f (.int lo)), some (.f (.int hi)), c6.map .f]
theorem ev_body {w : List Int} (h : Bits w) (o lo hi x : Int) : m_evenness_b1 (eE w o lo hi (some (.int x))) = .nx (eE w (o + (w.length * x - w.sum)) (if o + (w.length * x - w.sum) < lo then o + (w.length * x - w.sum) else lo) (if o + (w.length * x - w.sum) > hi then o + (w.length * x - w.sum) else hi) (some (.int x))) := by
  have m : MulOk (w.length : Int) x := mulOk_l (by omega) (by have := h.b1; omega)
  simp [m_evenness_b1, eE, mulD_i m]
theorem ev_loop {w : List Int} (h : Bits w) : ∃ lo hi c6, Hi w lo hi ∧ ∃ o, loopL (tgN 6) m_evenness_b1 (w.map .int) (eE w 0 0 0 none) = .nx (eE w o lo hi c6) := by
  obtain ⟨e', g1, ⟨lo, hi, c6, g2, g3⟩, _⟩ := loopL_fold (t := tgN 6) (b := m_evenness_b1) (D.int) (fun (xs : List Int) e => ∃ lo hi c6, e = eE w (ofp w.length w.sum xs xs.length) lo hi c6 ∧ Hp' w.length w.sum xs lo hi) (fun xs x => xs ++ [x]) (fun _ _ => True) (fun x r xs e _ ⟨lo, hi, c6, he, hh⟩ => by
    refine ⟨eE w (ofp w.length w.sum xs xs.length) lo hi (some (.int x)), _, by rw [he]; exact tgN_f (a := c6) rfl, ev_body h _ _ _ _, ⟨_, _, some (.int x), ?_, hh.app⟩, trivial⟩
    rw [List.length_append, List.length_singleton, ofp_end]) w [] (eE w 0 0 0 none) trivial ⟨0, 0, none, by simp [ofp], ⟨fun j hj => by simp at hj; subst hj; simp [ofp], fun j hj => by simp at hj; subst hj; simp [ofp], ⟨0, by simp, by simp [ofp]⟩, ⟨0, by simp, by simp [ofp]⟩⟩⟩
  have e1 : w.foldl (fun xs x => xs ++ [x]) [] = w := by
    have : ∀ (ys xs : List Int), ys.foldl (fun xs x => xs ++ [x]) xs = xs ++ ys := by
      intro ys
      induction ys with
      | nil => simp
      | cons y ys ih => intro xs; rw [List.foldl_cons, ih]; simp
    rw [this]
    rfl
  rw [e1] at g2 g3
  exact ⟨lo, hi, c6, g3.hi h.b0, _, by rw [← g2]; exact g1⟩
theorem ev_start {w : List Int} (k : En → Out) : (sSeq (sAsgF 1 (mZ (mL lenD (aCons (mH (mN (mVar 0))) aNil))))
    (sSeq (sAsgF 2 (mZ (mL sumD (aCons (mH (mN (mVar 0))) aNil))))
    (sSeq (sTgt (tgT [(tgN 3), (tgN 4), (tgN 5)]) (mTup (aCons (mC (.int 0)) (aCons (mC (.int 0)) (aCons (mC (.int 0)) aNil))))) k))) [some (.f (wD w)), none, none, none, none, none, none] = k (eE w 0 0 0 none) := by
  have s1 : sAsgF 1 (mZ (mL lenD (aCons (mH (mN (mVar 0))) aNil))) [some (.f (wD w)), none, none, none, none, none, none] = .nx [some (.f (wD w)), some (.f (.int (w.length : Int))), none, none, none, none, none] := by
    simp [len_w]
  have s2 : sAsgF 2 (mZ (mL sumD (aCons (mH (mN (mVar 0))) aNil))) [some (.f (wD w)), some (.f (.int (w.length : Int))), none, none, none, none, none] = .nx [some (.f (wD w)), some (.f (.int (w.length : Int))), some (.f (.int w.sum)), none, none, none, none] := by
    simp [sum_w]
  have s3 : sTgt (tgT [(tgN 3), (tgN 4), (tgN 5)]) (mTup (aCons (mC (.int 0)) (aCons (mC (.int 0)) (aCons (mC (.int 0)) aNil)))) [some (.f (wD w)), some (.f (.int (w.length : Int))), some (.f (.int w.sum)), none, none, none, none] = .nx (eE w 0 0 0 none) := by
    simp [eE]
  rw [seq_nx s1, seq_nx s2, seq_nx s3]
theorem ev_items {w : List Int} : mSeqA (mVar 0) (eE w 0 0 0 none) = .ok (w.map .int, eE w 0 0 0 none) := by
  have : (wD w).items = .ok (w.map .int) := rfl
  simp [eE, this]
/-- what evenness tells of an even word -/
theorem evenness_even {w : List Int} (h : Bits w) (hn : NoBad w) : ∃ lo hi, Hi w lo hi ∧ hi - lo < w.length ∧ S_evenness [.f (wD w)] = .ok (.f (.tuple [.str "even", .int hi]), []) := by
  obtain ⟨lo, hi, c6, hh, o, g⟩ := ev_loop h
  have hlt : hi - lo < w.length := hh.conv fun l l1 l2 i j hi hj => (bad_iff h).mp (hn l l1 l2) i j hi hj
  refine ⟨lo, hi, hh, hlt, spN_r rfl ?_⟩
  have s1 : (sSeq (sIf (mBool (m2 ltD (mH (m2 subD (mH (mN (mVar 5))) (mH (mN (mVar 4))))) (mH (mN (mVar 1))))) (sRet (mN (mTup (aCons (mC (.str "even")) (aCons (mVar 5) aNil))))) sNext)
    (sRet (mCall S_uneven (aCons (aD (mVar 0)) aNil)))) (eE w o lo hi c6) = .rt (.f (.tuple [.str "even", .int hi])) (eE w o lo hi c6) := by
    simp [eE, hlt]
  have key : m_evenness S_uneven [some (.f (wD w)), none, none, none, none, none, none] = .rt (.f (.tuple [.str "even", .int hi])) (eE w o lo hi c6) := by
    unfold m_evenness
    rw [ev_start, seq_nx ((for_rD ev_items).trans g), s1]
  rw [runD_r, show startE 7 [.f (wD w)] = [some (.f (wD w)), none, none, none, none, none, none] from rfl, key]
  rfl
theorem evenness_not {w : List Int} {l : Nat} (h : Bits w) (hf : First w l) : S_evenness [.f (wD w)] = .ok (.f (.tuple [.str "uneven", .int (l : Int), .int (iW w l : Int), .int (jW w l : Int)]), []) := by
  obtain ⟨lo, hi, c6, hh, o, g⟩ := ev_loop h
  have hlt : ¬ hi - lo < w.length := fun hlt => by
    have : bad w l = false := (bad_iff h).mpr fun i j hi hj => hh.wins hlt (by have := hf.l2; omega) hi hj
    rw [hf.bd] at this
    cases this
  refine spN_r rfl ?_
  have hu := uneven_some h hf
  have s1 : (sSeq (sIf (mBool (m2 ltD (mH (m2 subD (mH (mN (mVar 5))) (mH (mN (mVar 4))))) (mH (mN (mVar 1))))) (sRet (mN (mTup (aCons (mC (.str "even")) (aCons (mVar 5) aNil))))) sNext)
    (sRet (mCall S_uneven (aCons (aD (mVar 0)) aNil)))) (eE w o lo hi c6) = .rt (.f (.tuple [.str "uneven", .int (l : Int), .int (iW w l : Int), .int (jW w l : Int)])) (eE w o lo hi c6) := by
    simp [eE, hlt, hu]
  have key : m_evenness S_uneven [some (.f (wD w)), none, none, none, none, none, none] = .rt (.f (.tuple [.str "uneven", .int (l : Int), .int (iW w l : Int), .int (jW w l : Int)])) (eE w o lo hi c6) := by
    unfold m_evenness
    rw [ev_start, seq_nx ((for_rD ev_items).trans g), s1]
  rw [runD_r, show startE 7 [.f (wD w)] = [some (.f (wD w)), none, none, none, none, none, none] from rfl, key]
  rfl
end ShW

namespace Md
open PySem L2 DL PyProof.Rows
noncomputable def m_advanced_b1 : En → Out :=
  (sIf (mBool (m2 gtD (mH (mN (mVar 5))) (mH (mN (mC (.int 0)))))) (sAsgF 3 (mZ (mL minD (aCons (mH (mN (mVar 3))) (aCons (mH (m2 fdivD (mH (m2 subD (mH (mN (mVar 2))) (mH (mN (mVar 4))))) (mH (mN (mVar 5))))) aNil))))) sNext)
noncomputable def m_advanced : En → Out :=
  (sSeq (sFor (mZip (mVar 0) (mVar 1)) (tgT [(tgN 4), (tgN 5)]) m_advanced_b1)
    (sRet (mN (mTup (aCons (mZ (m2 addD (mH (m2 ixD (mH (mN (mVar 0))) (mH (mN (mC (.int 0)))))) (mH (m2 mulD (mH (mN (mVar 3))) (mH (m2 ixD (mH (mN (mVar 1))) (mH (mN (mC (.int 0)))))))))) (aCons (mZ (m2 addD (mH (m2 ixD (mH (mN (mVar 0))) (mH (mN (mC (.int 1)))))) (mH (m2 mulD (mH (mN (mVar 3))) (mH (m2 ixD (mH (mN (mVar 1))) (mH (mN (mC (.int 1)))))))))) aNil))))))
noncomputable def m_between_t1 : M Bool :=
  (mAnd (mBool (m2 leD (mH (m2 addD (mH (m2 ixD (mH (mN (mVar 4))) (mH (mN (mC (.int 0)))))) (mH (m2 ixD (mH (mN (mVar 5))) (mH (mN (mC (.int 0)))))))) (mH (mN (mVar 1))))) (mBool (m2 leD (mH (m2 addD (mH (m2 ixD (mH (mN (mVar 4))) (mH (mN (mC (.int 1)))))) (mH (m2 ixD (mH (mN (mVar 5))) (mH (mN (mC (.int 1)))))))) (mH (mN (mVar 1))))))
noncomputable def m_between_w1 (S_advanced : Sf) : En → Out :=
  (sSeq (sAsgF 6 (mZ (m2 subD (mH (m2 mulD (mH (mN (mVar 2))) (mH (m2 ixD (mH (mN (mVar 4))) (mH (mN (mC (.int 1)))))))) (mH (m2 mulD (mH (m2 ixD (mH (mN (mVar 4))) (mH (mN (mC (.int 0)))))) (mH (mN (mVar 3))))))))
    (sSeq (sAsgF 7 (mZ (m2 subD (mH (m2 mulD (mH (m2 ixD (mH (mN (mVar 5))) (mH (mN (mC (.int 0)))))) (mH (mN (mVar 3))))) (mH (m2 mulD (mH (mN (mVar 2))) (mH (m2 ixD (mH (mN (mVar 5))) (mH (mN (mC (.int 1)))))))))))
    (sIf (mBool (m2 gtD (mH (mN (mVar 6))) (mH (mN (mVar 7))))) (sAsgF 4 (mZ (mCall S_advanced (aCons (aD (mVar 4)) (aCons (aD (mVar 5)) (aCons (aD (mVar 1)) (aCons (aD (mZ (m2 fdivD (mH (mN (mVar 6))) (mH (mN (mVar 7)))))) aNil))))))) (sAsgF 5 (mZ (mCall S_advanced (aCons (aD (mVar 5)) (aCons (aD (mVar 4)) (aCons (aD (mVar 1)) (aCons (aD (mZ (m2 fdivD (mH (mN (mVar 7))) (mH (mN (mVar 6)))))) aNil))))))))))
noncomputable def m_between (S_advanced : Sf) : En → Out :=
  (sSeq (sTgt (tgT [(tgN 2), (tgN 3)]) (mVar 0))
    (sSeq (sIf (mAnd (mBool (m2 leD (mH (mN (mVar 2))) (mH (mN (mVar 1))))) (mBool (m2 leD (mH (mN (mVar 3))) (mH (mN (mVar 1)))))) (sRet (mN (mTup (aCons (mC (.str "between")) (aCons (mTup (aCons (mVar 2) (aCons (mVar 3) aNil))) (aCons (mTup (aCons (mVar 2) (aCons (mVar 3) aNil))) aNil)))))) sNext)
    (sSeq (sTgt (tgT [(tgN 4), (tgN 5)]) (mTup (aCons (mTup (aCons (mC (.int 0)) (aCons (mC (.int 1)) aNil))) (aCons (mTup (aCons (mC (.int 1)) (aCons (mC (.int 0)) aNil))) aNil))))
    (sSeq (sWhile m_between_t1 (m_between_w1 S_advanced))
    (sSeq (sIf (mBool (m2 eqD (mH (m2 ixD (mH (mN (mVar 5))) (mH (mN (mC (.int 1)))))) (mH (mN (mC (.int 0)))))) (sRet (mN (mTup (aCons (mC (.str "between")) (aCons (mVar 4) (aCons (mC .none) aNil)))))) sNext)
    (sRet (mN (mTup (aCons (mC (.str "between")) (aCons (mVar 4) (aCons (mVar 5) aNil)))))))))))
noncomputable def m_nearest (S_between S_compare S_minus : Sf) : En → Out :=
  (sSeq (sAsgF 2 (mZ (mCall S_between (aCons (aD (mVar 0)) (aCons (aD (mVar 1)) aNil)))))
    (sSeq (sParN 3 4 (mN (mZ (m2 ixD (mH (mN (mVar 2))) (mH (mN (mC (.int 1))))))) (mN (mZ (m2 ixD (mH (mN (mVar 2))) (mH (mN (mC (.int 2))))))))
    (sSeq (sIf (mOr (mBool (m2 isD (mH (mN (mVar 4))) (mH (mN (mC .none))))) (mBool (m2 leD (mH (mCall S_compare (aCons (aD (mZ (mCall S_minus (aCons (aD (mVar 0)) (aCons (aD (mVar 3)) aNil))))) (aCons (aD (mZ (mCall S_minus (aCons (aD (mVar 4)) (aCons (aD (mVar 0)) aNil))))) aNil)))) (mH (mN (mC (.int 0))))))) (sRet (mN (mVar 3))) sNext)
    (sRet (mN (mVar 4))))))
end Md
namespace ShN
open PySem L2 DL PyProof.Rows Md Sh
/-! ### between: the walk down the tree, many steps at once -/
/-- low = l, high = h; the fraction p/q is l*b + h*a -/
structure Br (p q n l0 l1 h0 h1 a b : Nat) : Prop where
  pp : p = l0 * b + h0 * a
  qq : q = l1 * b + h1 * a
  un : h0 * l1 = l0 * h1 + 1
  pa : 0 < a
  pb : 0 < b
  co : Nat.gcd a b = 1
  n0 : l0 ≤ n
  n1 : l1 ≤ n
  m0 : h0 ≤ n
  m1 : h1 ≤ n
  out : ¬ (p ≤ n ∧ q ≤ n)
theorem Br.ahead {p q n l0 l1 h0 h1 a b : Nat} (h : Br p q n l0 l1 h0 h1 a b) : p * l1 = l0 * q + a := by
  obtain ⟨pp, qq, un, _⟩ := h
  rw [pp, qq]
  have u1 : h0 * l1 * a = l0 * h1 * a + a := by rw [un, Nat.add_mul, Nat.one_mul]
  simp only [Nat.add_mul, Nat.mul_add, Nat.mul_assoc, Nat.mul_comm, Nat.mul_left_comm] at *
  omega
theorem Br.behind {p q n l0 l1 h0 h1 a b : Nat} (h : Br p q n l0 l1 h0 h1 a b) : h0 * q = p * h1 + b := by
  obtain ⟨pp, qq, un, _⟩ := h
  rw [pp, qq]
  have u1 : h0 * l1 * b = l0 * h1 * b + b := by rw [un, Nat.add_mul, Nat.one_mul]
  simp only [Nat.add_mul, Nat.mul_add, Nat.mul_assoc, Nat.mul_comm, Nat.mul_left_comm] at *
  omega
theorem gcd_sub_mul {a b k : Nat} (h : k * b ≤ a) : Nat.gcd (a - k * b) b = Nat.gcd a b := by
  obtain ⟨c, rfl⟩ : ∃ c, a = c + k * b := ⟨a - k * b, by omega⟩
  rw [Nat.add_sub_cancel, Nat.gcd_add_mul_right_left]
/-- k steps to the right -/
theorem Br.low {p q n l0 l1 h0 h1 a b k : Nat} (h : Br p q n l0 l1 h0 h1 a b) (hk : k * b ≤ a) (k0 : l0 + k * h0 ≤ n) (k1 : l1 + k * h1 ≤ n) : Br p q n (l0 + k * h0) (l1 + k * h1) h0 h1 (a - k * b) b := by
  obtain ⟨pp, qq, un, pa, pb, co, n0, n1, m0, m1, out⟩ := h
  have hco := gcd_sub_mul (k := k) hk
  obtain ⟨c, rfl⟩ : ∃ c, a = c + k * b := ⟨a - k * b, by omega⟩
  rw [Nat.add_sub_cancel] at *
  have e1 : p = (l0 + k * h0) * b + h0 * c := by
    simp only [Nat.add_mul, Nat.mul_add, Nat.mul_assoc, Nat.mul_comm, Nat.mul_left_comm] at *; omega
  have e2 : q = (l1 + k * h1) * b + h1 * c := by
    simp only [Nat.add_mul, Nat.mul_add, Nat.mul_assoc, Nat.mul_comm, Nat.mul_left_comm] at *; omega
  refine ⟨e1, e2, ?_, ?_, pb, by rw [hco]; exact co, k0, k1, m0, m1, out⟩
  · simp only [Nat.add_mul, Nat.mul_add, Nat.mul_assoc, Nat.mul_comm, Nat.mul_left_comm] at *; omega
  · rcases Nat.eq_zero_or_pos c with z | z
    · exfalso
      subst z
      rw [Nat.gcd_zero_left, co] at hco
      subst hco
      exact out ⟨by omega, by omega⟩
    · exact z
/-- k steps to the left -/
theorem Br.high {p q n l0 l1 h0 h1 a b k : Nat} (h : Br p q n l0 l1 h0 h1 a b) (hk : k * a ≤ b) (k0 : h0 + k * l0 ≤ n) (k1 : h1 + k * l1 ≤ n) : Br p q n l0 l1 (h0 + k * l0) (h1 + k * l1) a (b - k * a) := by
  obtain ⟨pp, qq, un, pa, pb, co, n0, n1, m0, m1, out⟩ := h
  have hco := gcd_sub_mul (k := k) hk
  rw [Nat.gcd_comm b a, co] at hco
  obtain ⟨c, rfl⟩ : ∃ c, b = c + k * a := ⟨b - k * a, by omega⟩
  rw [Nat.add_sub_cancel] at *
  have e1 : p = l0 * c + (h0 + k * l0) * a := by
    simp only [Nat.add_mul, Nat.mul_add, Nat.mul_assoc, Nat.mul_comm, Nat.mul_left_comm] at *; omega
  have e2 : q = l1 * c + (h1 + k * l1) * a := by
    simp only [Nat.add_mul, Nat.mul_add, Nat.mul_assoc, Nat.mul_comm, Nat.mul_left_comm] at *; omega
  refine ⟨e1, e2, ?_, pa, ?_, by rw [Nat.gcd_comm]; exact hco, n0, n1, k0, k1, out⟩
  · simp only [Nat.add_mul, Nat.mul_add, Nat.mul_assoc, Nat.mul_comm, Nat.mul_left_comm] at *; omega
  · rcases Nat.eq_zero_or_pos c with z | z
    · exfalso
      subst z
      rw [Nat.gcd_zero_left] at hco
      subst hco
      exact out ⟨by omega, by omega⟩
    · exact z
/-- how often at most -/
def often (n o0 o1 s0 s1 k : Nat) : Nat :=
  let k1 := if 0 < s0 then (if (n - o0) / s0 < k then (n - o0) / s0 else k) else k
  if 0 < s1 then (if (n - o1) / s1 < k1 then (n - o1) / s1 else k1) else k1
theorem often_le {n o0 o1 s0 s1 k : Nat} (h0 : o0 ≤ n) (h1 : o1 ≤ n) : often n o0 o1 s0 s1 k ≤ k ∧ o0 + often n o0 o1 s0 s1 k * s0 ≤ n ∧ o1 + often n o0 o1 s0 s1 k * s1 ≤ n := by
  have key : ∀ o s j : Nat, o ≤ n → 0 < s → j ≤ (n - o) / s → o + j * s ≤ n := fun o s j h hs hj => by
    have := (Nat.le_div_iff_mul_le hs).mp hj
    omega
  have kz : ∀ o s j : Nat, o ≤ n → ¬ 0 < s → o + j * s ≤ n := fun o s j h hs => by
    have : s = 0 := by omega
    subst this
    simpa using h
  unfold often
  dsimp only
  by_cases c0 : 0 < s0 <;> by_cases c1 : 0 < s1 <;> simp only [c0, c1, if_true, if_false]
  · split <;> split <;> refine ⟨by omega, ?_, ?_⟩ <;> first
      | exact key _ _ _ h0 c0 (by omega)
      | exact key _ _ _ h1 c1 (by omega)
  · split <;> refine ⟨by omega, ?_, kz _ _ _ h1 c1⟩ <;> exact key _ _ _ h0 c0 (by omega)
  · split <;> refine ⟨by omega, kz _ _ _ h0 c0, ?_⟩ <;> exact key _ _ _ h1 c1 (by omega)
  · exact ⟨Nat.le_refl _, kz _ _ _ h0 c0, kz _ _ _ h1 c1⟩
theorem often_pos {n o0 o1 s0 s1 k : Nat} (hk : 0 < k) (h0 : o0 + s0 ≤ n) (h1 : o1 + s1 ≤ n) : 0 < often n o0 o1 s0 s1 k := by
  have key : ∀ o s : Nat, o + s ≤ n → 0 < s → 0 < (n - o) / s := fun o s h hs => Nat.div_pos (by omega) hs
  unfold often
  dsimp only
  by_cases c0 : 0 < s0 <;> by_cases c1 : 0 < s1 <;> simp only [c0, c1, if_true, if_false]
  · have := key _ _ h0 c0
    have := key _ _ h1 c1
    split <;> split <;> omega
  · have := key _ _ h0 c0
    split <;> omega
  · have := key _ _ h1 c1
    split <;> omega
  · exact hk
/-- what lies strictly between neighbours is no simpler than their middle -/
theorem Br.gap {l0 l1 h0 h1 r s : Nat} (un : h0 * l1 = l0 * h1 + 1) (g1 : l0 * s < r * l1) (g2 : r * h1 < h0 * s) : l0 + h0 ≤ r ∧ l1 + h1 ≤ s := by
  obtain ⟨x, hx⟩ : ∃ x, r * l1 = l0 * s + x + 1 := ⟨r * l1 - l0 * s - 1, by omega⟩
  obtain ⟨y, hy⟩ : ∃ y, h0 * s = r * h1 + y + 1 := ⟨h0 * s - r * h1 - 1, by omega⟩
  have e1 : r = l0 * (y + 1) + h0 * (x + 1) := by
    have t1 : r * l1 * h0 = (l0 * s + x + 1) * h0 := by rw [hx]
    have t2 : h0 * s * l0 = (r * h1 + y + 1) * l0 := by rw [hy]
    have t3 : h0 * l1 * r = (l0 * h1 + 1) * r := by rw [un]
    simp only [Nat.add_mul, Nat.mul_add, Nat.mul_assoc, Nat.mul_comm, Nat.mul_left_comm] at *
    omega
  have e2 : s = l1 * (y + 1) + h1 * (x + 1) := by
    have t1 : r * l1 * h1 = (l0 * s + x + 1) * h1 := by rw [hx]
    have t2 : h0 * s * l1 = (r * h1 + y + 1) * l1 := by rw [hy]
    have t3 : h0 * l1 * s = (l0 * h1 + 1) * s := by rw [un]
    simp only [Nat.add_mul, Nat.mul_add, Nat.mul_assoc, Nat.mul_comm, Nat.mul_left_comm] at *
    omega
  have z1 : l0 ≤ l0 * (y + 1) := Nat.le_mul_of_pos_right _ (by omega)
  have z2 : h0 ≤ h0 * (x + 1) := Nat.le_mul_of_pos_right _ (by omega)
  have z3 : l1 ≤ l1 * (y + 1) := Nat.le_mul_of_pos_right _ (by omega)
  have z4 : h1 ≤ h1 * (x + 1) := Nat.le_mul_of_pos_right _ (by omega)
  omega
def pN (a b : Nat) : D := .tuple [.int (a : Int), .int (b : Int)]
/-- a number well within reach -/
def lim : Nat := 2 ^ 700
theorem big {n : Nat} (h : n < lim) : Bg (n : Int) := bg_le (n := 700) (by rw [Int.natAbs_natCast]; exact h) (by decide)
theorem divOk_n {q : Nat} (h : 0 < q) (h2 : q < lim) : DivOk (q : Int) := ⟨by omega, Nat.lt_of_lt_of_le (by rw [Int.natAbs_natCast]; exact h2) (pow_mono2 (a := 700) (by decide))⟩
/-! ### advanced -/
theorem adv_run {n o0 o1 s0 s1 k : Nat} (h0 : o0 ≤ n) (h1 : o1 ≤ n) (l0 : s0 < lim) (l1 : s1 < lim) (lk : k < lim) : runD 6 m_advanced [.f (pN o0 o1), .f (pN s0 s1), .f (.int (n : Int)), .f (.int (k : Int))] = .ok (.f (pN (o0 + often n o0 o1 s0 s1 k * s0) (o1 + often n o0 o1 s0 s1 k * s1)), []) := by
  have e0 : (n : Int) - (o0 : Int) = ((n - o0 : Nat) : Int) := by omega
  have e1 : (n : Int) - (o1 : Int) = ((n - o1 : Nat) : Int) := by omega
  have step : ∀ (o s j : Nat) (x y : D) (c d : Option D) (ds : List D), o ≤ n → s < lim → loopL (tgT [tgN 4, tgN 5]) m_advanced_b1 (.tupW [.int (o : Int), .int (s : Int)] :: ds) [some (.f x), some (.f y), some (.f (.int (n : Int))), some (.f (.int (j : Int))), c.map .f, d.map .f] = loopL (tgT [tgN 4, tgN 5]) m_advanced_b1 ds [some (.f x), some (.f y), some (.f (.int (n : Int))), some (.f (.int (((if 0 < s then (if (n - o) / s < j then (n - o) / s else j) else j) : Nat) : Int))), some (.f (.int (o : Int))), some (.f (.int (s : Int)))] := by
    intro o s j x y c d ds ho hs
    have e : (n : Int) - (o : Int) = ((n - o : Nat) : Int) := by omega
    have t : tgT [tgN 4, tgN 5] (.tupW [.int (o : Int), .int (s : Int)]) [some (.f x), some (.f y), some (.f (.int (n : Int))), some (.f (.int (j : Int))), c.map .f, d.map .f] = .ok [some (.f x), some (.f y), some (.f (.int (n : Int))), some (.f (.int (j : Int))), some (.f (.int (o : Int))), some (.f (.int (s : Int)))] := by simp
    by_cases hs0 : 0 < s
    · have hd := divOk_n hs0 hs
      have hsI : (0 : Int) < (s : Int) := by omega
      have ed : ((n - o : Nat) : Int) / (s : Int) = (((n - o) / s : Nat) : Int) := (Int.natCast_ediv _ _).symm
      rw [if_pos hs0]
      by_cases hlt : (n - o) / s < j
      · have hltI : (((n - o) / s : Nat) : Int) < (j : Int) := by omega
        rw [if_pos hlt]
        exact loop_nx t (by simp [m_advanced_b1, hs0, e, fdivD_i hd, ed, hlt, -Int.natCast_ediv])
      · rw [if_neg hlt]
        exact loop_nx t (by simp [m_advanced_b1, hs0, e, fdivD_i hd, ed, hlt, -Int.natCast_ediv])
    · rw [if_neg hs0]
      exact loop_nx t (by simp [m_advanced_b1, hs0])
  obtain ⟨K, hK⟩ : ∃ K, K = often n o0 o1 s0 s1 k := ⟨_, rfl⟩
  obtain ⟨k1, hk1⟩ : ∃ k1 : Nat, k1 = if 0 < s0 then (if (n - o0) / s0 < k then (n - o0) / s0 else k) else k := ⟨_, rfl⟩
  have hK' : K = if 0 < s1 then (if (n - o1) / s1 < k1 then (n - o1) / s1 else k1) else k1 := by rw [hK, hk1]; rfl
  have g1 := step o0 s0 k (pN o0 o1) (pN s0 s1) none none [.tupW [.int (o1 : Int), .int (s1 : Int)]] h0 l0
  rw [← hk1] at g1
  have g2 := step o1 s1 k1 (pN o0 o1) (pN s0 s1) (some (.int (o0 : Int))) (some (.int (s0 : Int))) [] h1 l1
  rw [← hK'] at g2
  have hlp : loopL (tgT [tgN 4, tgN 5]) m_advanced_b1 [.tupW [.int (o0 : Int), .int (s0 : Int)], .tupW [.int (o1 : Int), .int (s1 : Int)]] [some (.f (pN o0 o1)), some (.f (pN s0 s1)), some (.f (.int (n : Int))), some (.f (.int (k : Int))), none, none] = .nx [some (.f (pN o0 o1)), some (.f (pN s0 s1)), some (.f (.int (n : Int))), some (.f (.int (K : Int))), some (.f (.int (o1 : Int))), some (.f (.int (s1 : Int)))] := by
    rw [show (none : Option Ce) = Option.map Ce.f none from rfl, g1]
    exact g2
  have hKl : K ≤ k := by rw [hK]; exact (often_le h0 h1).1
  have m1 : MulOk (K : Int) (s0 : Int) := bg_mul (big (by omega)) (big l0)
  have m2 : MulOk (K : Int) (s1 : Int) := bg_mul (big (by omega)) (big l1)
  rw [← hK]
  have hz : ziA (pN o0 o1) (pN s0 s1) = .ok [.tupW [.int (o0 : Int), .int (s0 : Int)], .tupW [.int (o1 : Int), .int (s1 : Int)]] := rfl
  unfold pN at *
  simp [runD_r, startE, m_advanced, hlp, hz, mulD_i m1, mulD_i m2, ziD]
structure Adv (n o0 o1 s0 s1 k : Nat) : Prop where
  h0 : o0 ≤ n
  h1 : o1 ≤ n
  l0 : s0 < lim
  l1 : s1 < lim
  lk : k < lim
noncomputable def S_advanced : Sf := specR (fun cs => ∃ n o0 o1 s0 s1 k, Adv n o0 o1 s0 s1 k ∧ cs = [.f (pN o0 o1), .f (pN s0 s1), .f (.int (n : Int)), .f (.int (k : Int))]) 6 m_advanced
theorem sem_advanced : ∀ cs c outs, S_advanced cs = .ok (c, outs) → cs.length = 4 ∧ runD 6 m_advanced cs = .ok (c, outs) := specR_sem fun cs ⟨n, o0, o1, s0, s1, k, _, h⟩ => by rw [h]; rfl
theorem adv_r {n o0 o1 s0 s1 k : Nat} (h : Adv n o0 o1 s0 s1 k) : S_advanced [.f (pN o0 o1), .f (pN s0 s1), .f (.int (n : Int)), .f (.int (k : Int))] = .ok (.f (pN (o0 + often n o0 o1 s0 s1 k * s0) (o1 + often n o0 o1 s0 s1 k * s1)), []) := by
  unfold S_advanced
  rw [specR_ok ⟨n, o0, o1, s0, s1, k, h, rfl⟩, adv_run h.h0 h.h1 h.l0 h.l1 h.lk]
/-! ### between -/
def eK (p q n l0 l1 h0 h1 : Nat) (x : D) (c d : Option D) : En := [some (.f x), some (.f (.int (n : Int))), some (.f (.int (p : Int))), some (.f (.int (q : Int))), some (.f (pN l0 l1)), some (.f (pN h0 h1)), c.map .f, d.map .f]
theorem bt_test {p q n l0 l1 h0 h1 : Nat} {x : D} {c d : Option D} : m_between_t1 (eK p q n l0 l1 h0 h1 x c d) = .ok (decide (l0 + h0 ≤ n) && decide (l1 + h1 ≤ n), eK p q n l0 l1 h0 h1 x c d) := by
  unfold eK pN
  by_cases h : l0 + h0 ≤ n
  · have hI : (l0 : Int) + (h0 : Int) ≤ (n : Int) := by omega
    have e : decide ((l1 : Int) + (h1 : Int) ≤ (n : Int)) = decide (l1 + h1 ≤ n) := by
      congr 1
      exact propext ⟨fun z => by omega, fun z => by omega⟩
    simp [m_between_t1, h, hI, e]
  · have hI : ¬ (l0 : Int) + (h0 : Int) ≤ (n : Int) := by omega
    simp [m_between_t1, h, hI]
theorem bt_low {p q n l0 l1 h0 h1 a b k : Nat} {x : D} {c d : Option D} (ea : (p : Int) * (l1 : Int) - (l0 : Int) * (q : Int) = (a : Int)) (eb : (h0 : Int) * (q : Int) - (p : Int) * (h1 : Int) = (b : Int)) (m1 : MulOk (p : Int) (l1 : Int)) (m2 : MulOk (l0 : Int) (q : Int)) (m3 : MulOk (h0 : Int) (q : Int)) (m4 : MulOk (p : Int) (h1 : Int)) (hd : DivOk (b : Int)) (hab : b < a)
    (hk : S_advanced [.f (pN l0 l1), .f (pN h0 h1), .f (.int (n : Int)), .f (.int ((a / b : Nat) : Int))] = .ok (.f (pN (l0 + k * h0) (l1 + k * h1)), [])) : m_between_w1 S_advanced (eK p q n l0 l1 h0 h1 x c d) = .nx (eK p q n (l0 + k * h0) (l1 + k * h1) h0 h1 x (some (.int (a : Int))) (some (.int (b : Int)))) := by
  have ed : (a : Int) / (b : Int) = ((a / b : Nat) : Int) := (Int.natCast_ediv _ _).symm
  have habI : (b : Int) < (a : Int) := by omega
  unfold eK
  generalize hK : pN (l0 + k * h0) (l1 + k * h1) = K at *
  unfold pN at *
  simp [m_between_w1, mulD_i m1, mulD_i m2, mulD_i m3, mulD_i m4, ea, eb, hab, habI, fdivD_i hd, ed, hk, -Int.natCast_ediv]
theorem bt_high {p q n l0 l1 h0 h1 a b k : Nat} {x : D} {c d : Option D} (ea : (p : Int) * (l1 : Int) - (l0 : Int) * (q : Int) = (a : Int)) (eb : (h0 : Int) * (q : Int) - (p : Int) * (h1 : Int) = (b : Int)) (m1 : MulOk (p : Int) (l1 : Int)) (m2 : MulOk (l0 : Int) (q : Int)) (m3 : MulOk (h0 : Int) (q : Int)) (m4 : MulOk (p : Int) (h1 : Int)) (hd : DivOk (a : Int)) (hab : ¬ b < a)
    (hk : S_advanced [.f (pN h0 h1), .f (pN l0 l1), .f (.int (n : Int)), .f (.int ((b / a : Nat) : Int))] = .ok (.f (pN (h0 + k * l0) (h1 + k * l1)), [])) : m_between_w1 S_advanced (eK p q n l0 l1 h0 h1 x c d) = .nx (eK p q n l0 l1 (h0 + k * l0) (h1 + k * l1) x (some (.int (a : Int))) (some (.int (b : Int)))) := by
  have ed : (b : Int) / (a : Int) = ((b / a : Nat) : Int) := (Int.natCast_ediv _ _).symm
  have habI : ¬ (b : Int) < (a : Int) := by omega
  unfold eK
  generalize hK : pN (h0 + k * l0) (h1 + k * l1) = K at *
  unfold pN at *
  simp [m_between_w1, mulD_i m1, mulD_i m2, mulD_i m3, mulD_i m4, ea, eb, hab, habI, fdivD_i hd, ed, hk, -Int.natCast_ediv]
theorem lt_lim {n k : Nat} (h : n < 2 ^ k) (hk : k ≤ 700) : n < lim := Nat.lt_of_lt_of_le h (Nat.pow_le_pow_right (by decide) hk)
theorem mul_lim {a b : Nat} (h : a < 2 ^ 150) (h2 : b ≤ 2 ^ 150) : a * b < lim := by
  have h3 : a * b ≤ 2 ^ 150 * 2 ^ 150 := Nat.mul_le_mul (Nat.le_of_lt h) h2
  rw [← Nat.pow_add] at h3
  exact Nat.lt_of_le_of_lt h3 (Nat.pow_lt_pow_right (by decide) (by decide))
theorem bt_while {p q n : Nat} {x : D} (hp : p < 2 ^ 150) (hq : q < 2 ^ 150) (hn : n < 2 ^ 150) : ∀ (m l0 l1 h0 h1 a b : Nat) (c d : Option D), 4 * n - (l0 + l1 + h0 + h1) ≤ m → Br p q n l0 l1 h0 h1 a b →
    ∃ (l0' l1' h0' h1' a' b' : Nat) (c' d' : Option D), sWhile m_between_t1 (m_between_w1 S_advanced) (eK p q n l0 l1 h0 h1 x c d) = .nx (eK p q n l0' l1' h0' h1' x c' d') ∧ Br p q n l0' l1' h0' h1' a' b' ∧ (n < l0' + h0' ∨ n < l1' + h1') := by
  intro m
  induction m with
  | zero =>
    intro l0 l1 h0 h1 a b c d hm B
    refine ⟨l0, l1, h0, h1, a, b, c, d, while_f ?_, B, ?_⟩
    · rw [bt_test]
      have : ¬ (l0 + h0 ≤ n ∧ l1 + h1 ≤ n) := by
        have := B.un
        rintro ⟨z1, z2⟩
        have hl : 0 < l1 := by
          rcases Nat.eq_zero_or_pos l1 with z | z
          · rw [z, Nat.mul_zero] at this; omega
          · exact z
        omega
      rw [← Bool.decide_and, decide_eq_false this]
    · have := B.un
      have hl : 0 < l1 := by
        rcases Nat.eq_zero_or_pos l1 with z | z
        · rw [z, Nat.mul_zero] at this; omega
        · exact z
      omega
  | succ m ih =>
    intro l0 l1 h0 h1 a b c d hm B
    by_cases ht : l0 + h0 ≤ n ∧ l1 + h1 ≤ n
    · have t := bt_test (p := p) (q := q) (n := n) (l0 := l0) (l1 := l1) (h0 := h0) (h1 := h1) (x := x) (c := c) (d := d)
      rw [decide_eq_true ht.1, decide_eq_true ht.2] at t
      have un := B.un
      have hl : 0 < l1 := by
        rcases Nat.eq_zero_or_pos l1 with z | z
        · rw [z, Nat.mul_zero] at un; omega
        · exact z
      have hh : 0 < h0 := by
        rcases Nat.eq_zero_or_pos h0 with z | z
        · rw [z, Nat.zero_mul] at un; omega
        · exact z
      have n0 := B.n0
      have n1 := B.n1
      have m0 := B.m0
      have m1' := B.m1
      have pa := B.pa
      have pb := B.pb
      have Ea := B.ahead
      have Eb := B.behind
      have ea : (p : Int) * (l1 : Int) - (l0 : Int) * (q : Int) = (a : Int) := by
        have : ((p * l1 : Nat) : Int) = ((l0 * q + a : Nat) : Int) := by rw [Ea]
        rw [Int.natCast_add, Int.natCast_mul, Int.natCast_mul] at this
        omega
      have eb : (h0 : Int) * (q : Int) - (p : Int) * (h1 : Int) = (b : Int) := by
        have : ((h0 * q : Nat) : Int) = ((p * h1 + b : Nat) : Int) := by rw [Eb]
        rw [Int.natCast_add, Int.natCast_mul, Int.natCast_mul] at this
        omega
      have k1 : MulOk (p : Int) (l1 : Int) := bg_mul (big (lt_lim hp (by decide))) (big (lt_lim (k := 150) (by omega) (by decide)))
      have k2 : MulOk (l0 : Int) (q : Int) := bg_mul (big (lt_lim (k := 150) (by omega) (by decide))) (big (lt_lim hq (by decide)))
      have k3 : MulOk (h0 : Int) (q : Int) := bg_mul (big (lt_lim (k := 150) (by omega) (by decide))) (big (lt_lim hq (by decide)))
      have k4 : MulOk (p : Int) (h1 : Int) := bg_mul (big (lt_lim hp (by decide))) (big (lt_lim (k := 150) (by omega) (by decide)))
      have la : a < lim := by
        have := mul_lim hp (show l1 ≤ 2 ^ 150 by omega)
        omega
      have lb : b < lim := by
        have := mul_lim hq (show h0 ≤ 2 ^ 150 by omega)
        rw [Nat.mul_comm] at this
        omega
      have ln : n < lim := lt_lim hn (by decide)
      by_cases hab : b < a
      · have hk1 : 0 < a / b := Nat.div_pos (by omega) pb
        have hkl : a / b < lim := Nat.lt_of_le_of_lt (Nat.div_le_self _ _) la
        obtain ⟨o1, o2, o3⟩ := often_le (n := n) (o0 := l0) (o1 := l1) (s0 := h0) (s1 := h1) (k := a / b) n0 n1
        have o4 := often_pos (n := n) (o0 := l0) (o1 := l1) (s0 := h0) (s1 := h1) hk1 ht.1 ht.2
        have hadv := adv_r (n := n) (o0 := l0) (o1 := l1) (s0 := h0) (s1 := h1) (k := a / b) ⟨n0, n1, by omega, by omega, hkl⟩
        generalize often n l0 l1 h0 h1 (a / b) = k at *
        have hkb : k * b ≤ a := Nat.le_trans (Nat.mul_le_mul_right b o1) (Nat.div_mul_le_self a b)
        have B' := B.low hkb o2 o3
        have hw := bt_low (x := x) (c := c) (d := d) ea eb k1 k2 k3 k4 (divOk_n pb lb) hab hadv
        have g1 : h0 ≤ k * h0 := Nat.le_mul_of_pos_left _ o4
        obtain ⟨l0', l1', h0', h1', a', b', c', d', g, g2⟩ := ih _ _ _ _ _ _ (some (.int (a : Int))) (some (.int (b : Int))) (by omega) B'
        exact ⟨l0', l1', h0', h1', a', b', c', d', by rw [while_t t hw, g], g2⟩
      · have hk1 : 0 < b / a := Nat.div_pos (by omega) pa
        have hkl : b / a < lim := Nat.lt_of_le_of_lt (Nat.div_le_self _ _) lb
        obtain ⟨o1, o2, o3⟩ := often_le (n := n) (o0 := h0) (o1 := h1) (s0 := l0) (s1 := l1) (k := b / a) m0 m1'
        have o4 := often_pos (n := n) (o0 := h0) (o1 := h1) (s0 := l0) (s1 := l1) hk1 (by omega) (by omega)
        have hadv := adv_r (n := n) (o0 := h0) (o1 := h1) (s0 := l0) (s1 := l1) (k := b / a) ⟨m0, m1', by omega, by omega, hkl⟩
        generalize often n h0 h1 l0 l1 (b / a) = k at *
        have hka : k * a ≤ b := Nat.le_trans (Nat.mul_le_mul_right a o1) (Nat.div_mul_le_self b a)
        have B' := B.high hka o2 o3
        have hw := bt_high (x := x) (c := c) (d := d) ea eb k1 k2 k3 k4 (divOk_n pa la) hab hadv
        have g1 : l1 ≤ k * l1 := Nat.le_mul_of_pos_left _ o4
        obtain ⟨l0', l1', h0', h1', a', b', c', d', g, g2⟩ := ih _ _ _ _ _ _ (some (.int (a : Int))) (some (.int (b : Int))) (by omega) B'
        exact ⟨l0', l1', h0', h1', a', b', c', d', by rw [while_t t hw, g], g2⟩
    · refine ⟨l0, l1, h0, h1, a, b, c, d, while_f ?_, B, by omega⟩
      rw [bt_test, ← Bool.decide_and, decide_eq_false ht]
def encH : Option (Nat × Nat) → D
  | none => .none
  | some h => pN h.1 h.2
/-- what between tells -/
inductive Bt (p q n : Nat) : Nat × Nat → Option (Nat × Nat) → Prop where
  | same : p ≤ n → q ≤ n → Bt p q n (p, q) (some (p, q))
  | top {l0 l1 h0 a b : Nat} : Br p q n l0 l1 h0 0 a b → (n < l0 + h0 ∨ n < l1 + 0) → Bt p q n (l0, l1) none
  | mid {l0 l1 h0 h1 a b : Nat} : Br p q n l0 l1 h0 h1 a b → 0 < h1 → (n < l0 + h0 ∨ n < l1 + h1) → Bt p q n (l0, l1) (some (h0, h1))
def tellD (lo : Nat × Nat) (hi : Option (Nat × Nat)) : D := .tuple [.str "between", pN lo.1 lo.2, encH hi]
structure Dm (p q n : Nat) : Prop where
  q0 : 0 < q
  n0 : 0 < n
  co : Nat.gcd p q = 1
  pl : p < 2 ^ 150
  ql : q < 2 ^ 150
  nl : n < 2 ^ 150
theorem bt_same {p q n : Nat} (h : p ≤ n ∧ q ≤ n) : runD 8 (m_between S_advanced) [.f (pN p q), .f (.int (n : Int))] = .ok (.f (tellD (p, q) (some (p, q))), []) := by
  have h1 : (p : Int) ≤ (n : Int) := by omega
  have h2 : (q : Int) ≤ (n : Int) := by omega
  simp [runD_r, startE, m_between, pN, tellD, encH, h, h1, h2]
theorem bt_fin {p q n l0 l1 h0 h1 : Nat} {c d : Option D} (h : ¬ (p ≤ n ∧ q ≤ n)) (g : sWhile m_between_t1 (m_between_w1 S_advanced) [some (.f (pN p q)), some (.f (.int (n : Int))), some (.f (.int (p : Int))), some (.f (.int (q : Int))), some (.f (.tuple [.int 0, .int 1])), some (.f (.tuple [.int 1, .int 0])), none, none] = .nx [some (.f (pN p q)), some (.f (.int (n : Int))), some (.f (.int (p : Int))), some (.f (.int (q : Int))), some (.f (pN l0 l1)), some (.f (pN h0 h1)), c.map .f, d.map .f]) :
    runD 8 (m_between S_advanced) [.f (pN p q), .f (.int (n : Int))] = .ok (.f (tellD (l0, l1) (if h1 = 0 then none else some (h0, h1))), []) := by
  unfold pN at *
  by_cases hp : p ≤ n
  · have hq : ¬ q ≤ n := fun z => h ⟨hp, z⟩
    by_cases hz : h1 = 0
    · subst hz
      simp [runD_r, startE, m_between, tellD, encH, hp, hq, g, pN]
    · simp [runD_r, startE, m_between, tellD, encH, hp, hq, g, pN, hz]
  · by_cases hz : h1 = 0
    · subst hz
      simp [runD_r, startE, m_between, tellD, encH, hp, g, pN]
    · simp [runD_r, startE, m_between, tellD, encH, hp, g, pN, hz]
theorem between_run {p q n : Nat} (D : Dm p q n) : ∃ lo hi, Bt p q n lo hi ∧ runD 8 (m_between S_advanced) [.f (pN p q), .f (.int (n : Int))] = .ok (.f (tellD lo hi), []) := by
  obtain ⟨q0, n0, co, pl, ql, nl⟩ := D
  by_cases h : p ≤ n ∧ q ≤ n
  · exact ⟨_, _, .same h.1 h.2, bt_same h⟩
  · have p0 : 0 < p := by
      rcases Nat.eq_zero_or_pos p with z | z
      · subst z
        rw [Nat.gcd_zero_left] at co
        omega
      · exact z
    have B : Br p q n 0 1 1 0 p q := ⟨by omega, by omega, by decide, p0, q0, co, by omega, by omega, by omega, by omega, h⟩
    obtain ⟨l0, l1, h0, h1, a, b, c, d, g, B', ho⟩ := bt_while (x := pN p q) pl ql nl (4 * n) 0 1 1 0 p q none none (by omega) B
    have r := bt_fin (c := c) (d := d) h g
    by_cases hz : h1 = 0
    · subst hz
      rw [if_pos rfl] at r
      exact ⟨_, _, .top B' ho, r⟩
    · rw [if_neg hz] at r
      exact ⟨_, _, .mid B' (by omega) ho, r⟩
noncomputable def S_between : Sf := specR (fun cs => ∃ p q n, Dm p q n ∧ cs = [.f (pN p q), .f (.int (n : Int))]) 8 (m_between S_advanced)
theorem sem_between : ∀ cs c outs, S_between cs = .ok (c, outs) → cs.length = 2 ∧ runD 8 (m_between S_advanced) cs = .ok (c, outs) := specR_sem fun cs ⟨p, q, n, _, h⟩ => by rw [h]; rfl
theorem between_r {p q n : Nat} (h : Dm p q n) : ∃ lo hi, Bt p q n lo hi ∧ S_between [.f (pN p q), .f (.int (n : Int))] = .ok (.f (tellD lo hi), []) := by
  obtain ⟨lo, hi, h1, h2⟩ := between_run h
  exact ⟨lo, hi, h1, by unfold S_between; rw [specR_ok ⟨p, q, n, h, rfl⟩, h2]⟩
def sgn (u v : Int) : Int := if u - v = 0 then 0 else if 0 < u - v then 1 else -1
theorem compare_r {a b c d : Int} (h1 : Bg a) (h2 : Bg b) (h3 : Bg c) (h4 : Bg d) : S_compare [.f (.tuple [.int a, .int b]), .f (.tuple [.int c, .int d])] = .ok (.f (.int (sgn (a * d) (c * b))), []) := if_pos ⟨h1, h2, h3, h4⟩
theorem Br.lowq {p q n l0 l1 h0 h1 a b : Nat} (h : Br p q n l0 l1 h0 h1 a b) : Nat.gcd l0 l1 = 1 ∧ Nat.gcd h0 h1 = 1 := by
  have un := h.un
  constructor
  · have d1 : Nat.gcd l0 l1 ∣ h0 * l1 := Nat.dvd_trans (Nat.gcd_dvd_right _ _) (Nat.dvd_mul_left _ _)
    have d2 : Nat.gcd l0 l1 ∣ l0 * h1 := Nat.dvd_trans (Nat.gcd_dvd_left _ _) (Nat.dvd_mul_right _ _)
    rw [un] at d1
    have := (Nat.dvd_add_right d2).mp d1
    exact Nat.dvd_one.mp this
  · have d1 : Nat.gcd h0 h1 ∣ h0 * l1 := Nat.dvd_trans (Nat.gcd_dvd_left _ _) (Nat.dvd_mul_right _ _)
    have d2 : Nat.gcd h0 h1 ∣ l0 * h1 := Nat.dvd_trans (Nat.gcd_dvd_right _ _) (Nat.dvd_mul_left _ _)
    rw [un] at d1
    have := (Nat.dvd_add_right d2).mp d1
    exact Nat.dvd_one.mp this
/-! ### nearest, near -/
/-- the fractions of between are well within reach -/
structure Sm (lo : Nat × Nat) (hi : Option (Nat × Nat)) : Prop where
  l0 : lo.1 < 2 ^ 150
  l1 : lo.2 < 2 ^ 150
  lp : 0 < lo.2
  h : ∀ x, hi = some x → x.1 < 2 ^ 150 ∧ x.2 < 2 ^ 150 ∧ 0 < x.2
theorem Bt.sm {p q n : Nat} (hn : n < 2 ^ 150) (q0 : 0 < q) {lo : Nat × Nat} {hi : Option (Nat × Nat)} (h : Bt p q n lo hi) : Sm lo hi := by
  cases h with
  | same h1 h2 => exact ⟨by dsimp only; omega, by dsimp only; omega, q0, fun x e => by cases e; exact ⟨by dsimp only; omega, by dsimp only; omega, q0⟩⟩
  | @top l0 l1 h0 a b B ho =>
    have := B.n0
    have := B.n1
    have un := B.un
    have hl : 0 < l1 := by
      rcases Nat.eq_zero_or_pos l1 with z | z
      · rw [z, Nat.mul_zero] at un; omega
      · exact z
    exact ⟨by dsimp only; omega, by dsimp only; omega, hl, fun x e => by cases e⟩
  | @mid l0 l1 h0 h1 a b B hh ho =>
    have := B.n0
    have := B.n1
    have := B.m0
    have := B.m1
    have un := B.un
    have hl : 0 < l1 := by
      rcases Nat.eq_zero_or_pos l1 with z | z
      · rw [z, Nat.mul_zero] at un; omega
      · exact z
    exact ⟨by dsimp only; omega, by dsimp only; omega, hl, fun x e => by cases e; exact ⟨by dsimp only; omega, by dsimp only; omega, hh⟩⟩
/-! the best below and above -/
/-- lo is the greatest fraction not above p/q with both parts at most n; its form is the lowest -/
structure Best (p q n : Nat) (lo : Nat × Nat) : Prop where
  n0 : lo.1 ≤ n
  n1 : lo.2 ≤ n
  p1 : 0 < lo.2
  co : Nat.gcd lo.1 lo.2 = 1
  le : lo.1 * q ≤ p * lo.2
  mx : ∀ r s, r ≤ n → s ≤ n → 0 < s → r * q ≤ p * s → r * lo.2 ≤ lo.1 * s
structure BestH (p q n : Nat) (hi : Nat × Nat) : Prop where
  n0 : hi.1 ≤ n
  n1 : hi.2 ≤ n
  p1 : 0 < hi.2
  co : Nat.gcd hi.1 hi.2 = 1
  le : p * hi.2 ≤ hi.1 * q
  mn : ∀ r s, r ≤ n → s ≤ n → 0 < s → p * s ≤ r * q → hi.1 * s ≤ r * hi.2
theorem Bt.best {p q n : Nat} (co : Nat.gcd p q = 1) (q0 : 0 < q) {lo : Nat × Nat} {hi : Option (Nat × Nat)} (h : Bt p q n lo hi) : Best p q n lo := by
  cases h with
  | same h1 h2 => exact ⟨h1, h2, q0, co, Nat.le_refl _, fun r s _ _ _ h => h⟩
  | @top l0 l1 h0 a b B ho =>
    have un := B.un
    obtain ⟨c1, c2⟩ := B.lowq
    have Ea := B.ahead
    rw [Nat.mul_zero, Nat.zero_add] at un
    have e1 : h0 = 1 ∧ l1 = 1 := by
      have := Nat.eq_one_of_mul_eq_one_right un
      have := Nat.eq_one_of_mul_eq_one_left un
      omega
    obtain ⟨rfl, rfl⟩ := e1
    have n0 := B.n0
    have m0 := B.m0
    refine ⟨n0, m0, by dsimp only; decide, c1, by dsimp only; omega, fun r s hr hs s0 hle => ?_⟩
    have : l0 = n := by omega
    subst this
    show r * 1 ≤ l0 * s
    have := Nat.le_mul_of_pos_right l0 s0
    omega
  | @mid l0 l1 h0 h1 a b B hh ho =>
    obtain ⟨c1, c2⟩ := B.lowq
    have un := B.un
    have Ea := B.ahead
    have Eb := B.behind
    have pb := B.pb
    have hl : 0 < l1 := by
      rcases Nat.eq_zero_or_pos l1 with z | z
      · rw [z, Nat.mul_zero] at un; omega
      · exact z
    refine ⟨B.n0, B.n1, hl, c1, by dsimp only; omega, fun r s hr hs s0 hle => ?_⟩
    show r * l1 ≤ l0 * s
    by_cases hc : r * l1 ≤ l0 * s
    · exact hc
    · exfalso
      have g2 : r * h1 < h0 * s := by
        -- r/s <= p/q < h0/h1
        have t1 : r * q * h1 ≤ p * s * h1 := Nat.mul_le_mul_right _ hle
        have t2 : p * h1 * s < h0 * q * s := Nat.mul_lt_mul_of_pos_right (by omega) s0
        have t3 : q * (r * h1) < q * (h0 * s) := by
          simp only [Nat.mul_assoc, Nat.mul_comm, Nat.mul_left_comm] at *
          omega
        exact Nat.lt_of_mul_lt_mul_left t3
      obtain ⟨z1, z2⟩ := Br.gap un (by omega) g2
      omega
theorem Bt.bestH {p q n : Nat} (co : Nat.gcd p q = 1) (q0 : 0 < q) {lo : Nat × Nat} {hi : Nat × Nat} (h : Bt p q n lo (some hi)) : BestH p q n hi := by
  cases h with
  | same h1 h2 => exact ⟨h1, h2, q0, co, Nat.le_refl _, fun r s _ _ _ h => h⟩
  | @mid l0 l1 h0 h1 a b B hh ho =>
    obtain ⟨c1, c2⟩ := B.lowq
    have un := B.un
    have Ea := B.ahead
    have Eb := B.behind
    have pa := B.pa
    refine ⟨B.m0, B.m1, hh, c2, by dsimp only; omega, fun r s hr hs s0 hle => ?_⟩
    show h0 * s ≤ r * h1
    by_cases hc : h0 * s ≤ r * h1
    · exact hc
    · exfalso
      have g1 : l0 * s < r * l1 := by
        have t1 : p * s * l1 ≤ r * q * l1 := Nat.mul_le_mul_right _ hle
        have t2 : l0 * q * s < p * l1 * s := Nat.mul_lt_mul_of_pos_right (by omega) s0
        have t3 : q * (l0 * s) < q * (r * l1) := by
          simp only [Nat.mul_assoc, Nat.mul_comm, Nat.mul_left_comm] at *
          omega
        exact Nat.lt_of_mul_lt_mul_left t3
      obtain ⟨z1, z2⟩ := Br.gap un g1 (by omega)
      omega
/-- above the top there is none -/
theorem Bt.none_above {p q n : Nat} {lo : Nat × Nat} (h : Bt p q n lo none) (r s : Nat) (hr : r ≤ n) (s0 : 0 < s) : r * q < p * s := by
  cases h with
  | @top l0 l1 h0 a b B ho =>
    have un := B.un
    have Ea := B.ahead
    have pa := B.pa
    rw [Nat.mul_zero, Nat.zero_add] at un
    have e1 : h0 = 1 ∧ l1 = 1 := by
      have := Nat.eq_one_of_mul_eq_one_right un
      have := Nat.eq_one_of_mul_eq_one_left un
      omega
    obtain ⟨rfl, rfl⟩ := e1
    have n0 := B.n0
    have m0 := B.m0
    have hl : l0 = n := by omega
    subst hl
    have h1 : r * q ≤ l0 * q := Nat.mul_le_mul_right _ hr
    have h2 : p * 1 ≤ p * s := Nat.mul_le_mul_left _ s0
    omega
def nearD (t : Bool) (lo : D) : Option D → D
  | none => lo
  | some h => if t = true then h else lo
theorem nearest_fin {x m L : D} {hi : Option D} {A B : D} {z : Int} (hb : S_between [.f x, .f m] = .ok (.f (.tuple [.str "between", L, hi.getD .none]), [])) (hN : ∀ h, hi = some h → h.isN = false) (h1 : ∀ h, hi = some h → S_minus [.f h, .f x] = .ok (.f A, [])) (h2 : S_minus [.f x, .f L] = .ok (.f B, [])) (h3 : S_compare [.f B, .f A] = .ok (.f (.int z), [])) :
    runD 5 (m_nearest S_between S_compare S_minus) [.f x, .f m] = .ok (.f (nearD (decide (0 < z)) L hi), []) := by
  cases hi with
  | none => simp [runD_r, startE, m_nearest, nearD, hb]
  | some h =>
    have k := h1 h rfl
    have hn := hN h rfl
    by_cases hz : z ≤ 0
    · have : ¬ 0 < z := by omega
      simp [runD_r, startE, m_nearest, nearD, hb, hn, k, h2, h3, hz, this]
    · have : 0 < z := by omega
      simp [runD_r, startE, m_nearest, nearD, hb, hn, k, h2, h3, hz, this]
theorem red_bg {a b : Int} (ha : Bg a) (hb : Bg b) : Bg (redI a b).1 ∧ Bg (redI a b).2 := by
  have key : ∀ x g : Int, Bg x → Bg (x / g) := fun x g h => Nat.lt_of_le_of_lt (Int.natAbs_ediv_le_natAbs x g) h
  exact ⟨key _ _ ha, key _ _ hb⟩
theorem mul150 {a b : Nat} (h : a < 2 ^ 150) (h2 : b < 2 ^ 150) : a * b < 2 ^ 300 := by
  have h3 : a * b ≤ 2 ^ 150 * 2 ^ 150 := Nat.mul_le_mul (Nat.le_of_lt h) (Nat.le_of_lt h2)
  have h4 : a * b < 2 ^ 150 * 2 ^ 150 := by
    rcases Nat.eq_zero_or_pos b with z | z
    · subst z; rw [Nat.mul_zero]; decide
    · exact Nat.lt_of_lt_of_le (Nat.mul_lt_mul_of_pos_right h z) (Nat.mul_le_mul_left _ (Nat.le_of_lt h2))
  rw [← Nat.pow_add] at h4
  exact h4
theorem sub_bg {x y : Nat} (h : x < 2 ^ 300) (h2 : y < 2 ^ 300) : Bg ((x : Int) - (y : Int)) := bg_le (n := 300) (by omega) (by decide)
theorem minus_n {a b c d : Nat} (ha : a < 2 ^ 150) (hb : b < 2 ^ 150) (hc : c < 2 ^ 150) (hd : d < 2 ^ 150) (b0 : 0 < b) (d0 : 0 < d) : S_minus [.f (pN a b), .f (pN c d)] = .ok (.f (qD (redI ((a : Int) * d - c * b) ((b : Int) * d))), []) ∧ Bg (redI ((a : Int) * d - c * b) ((b : Int) * d)).1 ∧ Bg (redI ((a : Int) * d - c * b) ((b : Int) * d)).2 := by
  have hbd : (0 : Int) < (b : Int) * (d : Int) := Int.mul_pos (by omega) (by omega)
  have g : ∀ {n : Nat}, n < 2 ^ 150 → Bg (n : Int) := fun h => big (lt_lim h (by decide))
  refine ⟨if_pos ⟨hbd, g ha, g hb, g hc, g hd⟩, ?_⟩
  have e1 : (a : Int) * d - c * b = ((a * d : Nat) : Int) - ((c * b : Nat) : Int) := by rw [Int.natCast_mul, Int.natCast_mul]
  have e2 : (b : Int) * d = ((b * d : Nat) : Int) := by rw [Int.natCast_mul]
  refine red_bg ?_ ?_
  · rw [e1]; exact sub_bg (mul150 ha hd) (mul150 hc hb)
  · rw [e2]; exact big (lt_lim (mul150 hb hd) (by decide))
structure Sml (p q n : Nat) : Prop where
  d : Dm p q n
  p1 : p < 1000
  q1 : q < 1000
  n1 : n < 1000
theorem Bt.gcds {p q n : Nat} (co : Nat.gcd p q = 1) {lo : Nat × Nat} {hi : Option (Nat × Nat)} (h : Bt p q n lo hi) : Nat.gcd lo.1 lo.2 = 1 ∧ ∀ y, hi = some y → Nat.gcd y.1 y.2 = 1 := by
  cases h with
  | same h1 h2 => exact ⟨co, fun y hy => by cases hy; exact co⟩
  | top B ho => exact ⟨B.lowq.1, fun y hy => by cases hy⟩
  | mid B hh ho => exact ⟨B.lowq.1, fun y hy => by cases hy; exact B.lowq.2⟩
noncomputable def S_nearest : Sf := ShW.spN 2 5 (m_nearest S_between S_compare S_minus)
theorem sem_nearest : ∀ cs c outs, S_nearest cs = .ok (c, outs) → cs.length = 2 ∧ runD 5 (m_nearest S_between S_compare S_minus) cs = .ok (c, outs) := ShW.spN_sem
/-- nearest tells a fraction within the bound -/
theorem nearest_some {p q n : Nat} (D : Sml p q n) : ∃ a b : Nat, S_nearest [.f (pN p q), .f (.int (n : Int))] = .ok (.f (pN a b), []) ∧ a ≤ n ∧ 0 < b ∧ b ≤ n ∧ Nat.gcd a b = 1 := by
  obtain ⟨lo, hi, h, hb⟩ := between_r D.d
  have B := h.best D.d.co D.d.q0
  have gs := h.gcds D.d.co
  have n1 := D.n1
  have b0 := B.n0
  have b1 := B.n1
  have p1 := D.p1
  have q1 := D.q1
  obtain ⟨e1, f1, f2⟩ := minus_n (a := p) (b := q) (c := lo.1) (d := lo.2) (by omega) (by omega) (by omega) (by omega) D.d.q0 B.p1
  generalize redI ((p : Int) * lo.2 - lo.1 * q) ((q : Int) * lo.2) = Y at *
  have eE : encH hi = (hi.map fun x => pN x.1 x.2).getD .none := by cases hi <;> rfl
  unfold tellD at hb
  rw [eE] at hb
  have hN : ∀ x, (hi.map fun x : Nat × Nat => pN x.1 x.2) = some x → x.isN = false := by
    intro x hx
    cases hi with
    | none => cases hx
    | some y => cases hx; rfl
  cases hi with
  | none =>
    exact ⟨lo.1, lo.2, ShW.spN_r rfl (nearest_fin (A := qD Y) hb hN (fun x hx => by cases hx) e1 (compare_r f1 f2 f1 f2)), b0, B.p1, b1, gs.1⟩
  | some y =>
    have H := h.bestH D.d.co D.d.q0
    have c0 := H.n0
    have c1 := H.n1
    obtain ⟨e2, g1, g2⟩ := minus_n (a := y.1) (b := y.2) (c := p) (d := q) (by omega) (by omega) (by omega) (by omega) H.p1 D.d.q0
    generalize redI ((y.1 : Int) * q - p * y.2) ((y.2 : Int) * q) = Z at *
    have r := nearest_fin (A := qD Z) hb hN (fun x hx => by cases hx; exact e2) e1 (compare_r f1 f2 g1 g2)
    unfold nearD at r
    by_cases ht : decide (0 < sgn (Y.1 * Z.2) (Z.1 * Y.2)) = true
    · refine ⟨y.1, y.2, ShW.spN_r rfl (r.trans ?_), c0, H.p1, c1, gs.2 y rfl⟩
      simp only [Option.map_some]
      rw [if_pos ht]
    · refine ⟨lo.1, lo.2, ShW.spN_r rfl (r.trans ?_), b0, B.p1, b1, gs.1⟩
      simp only [Option.map_some]
      rw [if_neg ht]
end ShN

/-! DX: meanings walked forwards. A goal WP (statement environment) Q is stepped; no environment is written down. -/
namespace DL
open PySem L2 PyProof.Rows
def WP (o : Out) (Q : Out → Prop) : Prop := Q o
/-- it hands back c -/
abbrev RT (c : Ce) : Out → Prop := fun o => ∃ e, o = .rt c e
section
variable {a b : En → Out} {e e' : En} {Q : Out → Prop} {c : Ce}
theorem wp_nx (h : a e = .nx e') (k : WP (b e') Q) : WP (sSeq a b e) Q := by
  unfold WP at *
  rw [seq_nx h]
  exact k
theorem wp_rt (h : a e = .rt c e') : WP (sSeq a b e) (RT c) := ⟨e', seq_rt h⟩
theorem wp_rtQ (h : a e = .rt c e') (k : Q (.rt c e')) : WP (sSeq a b e) Q := by
  unfold WP
  rw [seq_rt h]
  exact k
theorem wp_bkQ (h : a e = .bk e') (k : Q (.bk e')) : WP (sSeq a b e) Q := by
  unfold WP
  rw [seq_bk h]
  exact k
theorem wp_ctQ (h : a e = .ct e') (k : Q (.ct e')) : WP (sSeq a b e) Q := by
  unfold WP
  rw [sSeq_r, h]
  exact k
theorem wp_ret (h : a e = .rt c e') : WP (a e) (RT c) := ⟨e', h⟩
theorem wp_end {o : Out} (h : a e = o) (k : Q o) : WP (a e) Q := by
  unfold WP
  rw [h]
  exact k
/-- a statement told by what it leaves -/
theorem wp_ex {P : En → Prop} (h : ∃ e', a e = .nx e' ∧ P e') (k : ∀ e', P e' → WP (b e') Q) : WP (sSeq a b e) Q := by
  obtain ⟨e', h1, h2⟩ := h
  exact wp_nx h1 (k e' h2)
/-- a sequence, in general -/
def contO (b : En → Out) (Q : Out → Prop) (o : Out) : Prop := (∃ e', o = .nx e' ∧ WP (b e') Q) ∨ ((∀ e', o ≠ .nx e') ∧ Q o)
theorem wp_seq (h : WP (a e) (contO b Q)) : WP (sSeq a b e) Q := by
  unfold WP contO at *
  rw [sSeq_r]
  rcases h with ⟨e', h1, h2⟩ | ⟨h1, h2⟩
  · rw [h1]
    exact h2
  · cases q : a e with
    | nx e' => exact absurd q (h1 e')
    | _ => rw [q] at h2; exact h2
theorem cont_nx (h : WP (b e') Q) : contO b Q (.nx e') := .inl ⟨e', rfl, h⟩
theorem cont_rt (h : Q (.rt c e')) : contO b Q (.rt c e') := .inr ⟨fun _ z => (by cases z), h⟩
theorem cont_bk (h : Q (.bk e')) : contO b Q (.bk e') := .inr ⟨fun _ z => (by cases z), h⟩
theorem cont_ct (h : Q (.ct e')) : contO b Q (.ct e') := .inr ⟨fun _ z => (by cases z), h⟩
theorem wp_imp {o : Out} {Q' : Out → Prop} (h : WP o Q') (hi : ∀ o, Q' o → Q o) : WP o Q := hi o h
/-- a test -/
theorem wp_if {t : M Bool} {k : Bool} (ht : t e = .ok (k, e')) (h1 : k = true → WP (a e') Q) (h2 : k = false → WP (b e') Q) : WP (sIf t a b e) Q := by
  unfold WP at *
  rw [sIf_r, ht]
  cases k with
  | true => exact h1 rfl
  | false => exact h2 rfl
/-- .. decided -/
theorem wp_ifd {t : M Bool} {p : Prop} [Decidable p] (ht : t e = .ok (decide p, e')) (h1 : p → WP (a e') Q) (h2 : ¬ p → WP (b e') Q) : WP (sIf t a b e) Q :=
  wp_if ht (fun h => h1 (of_decide_eq_true h)) fun h => h2 (of_decide_eq_false h)
/-- a test that changes nothing -/
theorem wp_ift {t : M Bool} (ht : t e = .ok (true, e)) (k : WP (a e) Q) : WP (sIf t a b e) Q := wp_if ht (fun _ => k) fun z => (by cases z)
theorem wp_iff {t : M Bool} (ht : t e = .ok (false, e)) (k : WP (b e) Q) : WP (sIf t a b e) Q := wp_if ht (fun z => (by cases z)) fun _ => k
theorem wp_ifp {t : M Bool} (p : Prop) [Decidable p] (ht : t e = .ok (decide p, e)) (h1 : p → WP (a e) Q) (h2 : ¬ p → WP (b e) Q) : WP (sIf t a b e) Q := wp_ifd ht h1 h2
theorem wp_frz {i : Nat} (h : e[i]? = some (some c)) (hc : c.io = false) (k : WP (b (e.set i (some (.f c.d)))) Q) : WP (sFrz i b e) Q := by
  unfold WP at *
  rw [sFrz_r, h]
  simp only [hc]
  exact k
/-- the function's body is walked -/
theorem run_rt {n : Nat} {m : En → Out} {cs : List Ce} (hs : startE n cs = e) (hi : owIx 0 cs = []) (h : WP (m e) (RT c)) : runD n m cs = .ok (c, []) := by
  obtain ⟨e1, h⟩ := h
  rw [runD_r, hs, h, hi]
  rfl
theorem run_io {n : Nat} {m : En → Out} {cs os : List Ce} (hs : startE n cs = e) (h : WP (m e) (fun o => ∃ e1, o = .rt c e1 ∧ outsAt (owIx 0 cs) e1 = .ok os)) : runD n m cs = .ok (c, os) := by
  obtain ⟨e1, h, h2⟩ := h
  rw [runD_r, hs, h]
  simp only [h2]
  rfl
theorem run_nx {n : Nat} {m : En → Out} {cs os : List Ce} (hs : startE n cs = e) (h : WP (m e) (fun o => ∃ e1, o = .nx e1 ∧ outsAt (owIx 0 cs) e1 = .ok os)) : runD n m cs = .ok (.f .none, os) := by
  obtain ⟨e1, h, h2⟩ := h
  rw [runD_r, hs, h]
  simp only [h2]
  rfl
end
/-! ### loops: what is changed is a row of slots -/
def setL (e : En) : List Nat → List (Option Ce) → En
  | i :: is, v :: vs => setL (e.set i v) is vs
  | _, _ => e
@[simp] theorem setL_nil (e : En) (vs : List (Option Ce)) : setL e [] vs = e := by cases vs <;> rfl
@[simp] theorem setL_cons (e : En) (i : Nat) (is : List Nat) (v : Option Ce) (vs : List (Option Ce)) : setL e (i :: is) (v :: vs) = setL (e.set i v) is vs := rfl
section
variable {m : M (List D)} {t : Tg} {b : En → Out} {e e0 : En} {ds : List D} {Q : Out → Prop}
/-- a loop by an invariant; it may be left -/
theorem for_q (I : Nat → En → Prop) (hs : m e = .ok (ds, e0)) (h0 : I 0 e0)
    (step : ∀ k d e, ds[k]? = some d → I k e → ∃ e1, t d e = .ok e1 ∧ WP (b e1) (fun o => (∃ e2, (o = .nx e2 ∨ o = .ct e2) ∧ I (k + 1) e2) ∨ (∃ e2, o = .bk e2 ∧ Q (.nx e2)) ∨ ∃ c e2, o = .rt c e2 ∧ Q (.rt c e2)))
    (fin : ∀ e, I ds.length e → Q (.nx e)) : WP (sFor m t b e) Q := by
  unfold WP
  rw [for_rD hs]
  have key : ∀ (rest pre : List D) (e : En), ds = pre ++ rest → I pre.length e → Q (loopL t b rest e) := by
    intro rest
    induction rest with
    | nil =>
      intro pre e hd hI
      rw [List.append_nil] at hd
      rw [← hd] at hI
      exact fin e hI
    | cons d rest ih =>
      intro pre e hd hI
      obtain ⟨e1, h1, h2⟩ := step pre.length d e (by rw [hd, List.getElem?_append_right (Nat.le_refl _), Nat.sub_self]; rfl) hI
      unfold WP at h2
      rcases h2 with ⟨e2, h3 | h3, h4⟩ | ⟨e2, h3, h4⟩ | ⟨c, e2, h3, h4⟩
      · rw [loop_nx h1 h3]
        exact ih (pre ++ [d]) e2 (by rw [hd]; simp) (by rw [List.length_append]; exact h4)
      · rw [loop_ct h1 h3]
        exact ih (pre ++ [d]) e2 (by rw [hd]; simp) (by rw [List.length_append]; exact h4)
      · rw [loop_bk h1 h3]
        exact h4
      · rw [loop_rt h1 h3]
        exact h4
  exact key ds [] e0 rfl h0
/-- .. that nothing leaves -/
theorem for_nx (I : Nat → En → Prop) (hs : m e = .ok (ds, e0)) (h0 : I 0 e0)
    (step : ∀ k d e, ds[k]? = some d → I k e → ∃ e1, t d e = .ok e1 ∧ WP (b e1) (fun o => ∃ e2, o = .nx e2 ∧ I (k + 1) e2)) : ∃ e', sFor m t b e = .nx e' ∧ I ds.length e' :=
  for_q (Q := fun o => ∃ e', o = .nx e' ∧ I ds.length e') I hs h0 (fun k d e hd hI => by
    obtain ⟨e1, h1, e2, h2, h3⟩ := step k d e hd hI
    exact ⟨e1, h1, .inl ⟨e2, .inl h2, h3⟩⟩) fun e h => ⟨e, rfl, h⟩
/-- .. with the slots ix changed, and no others; the members are enc x, x of xs -/
theorem for_u {α : Type} (xs : List α) (enc : α → D) (ix : List Nat) (J : Nat → List (Option Ce) → Prop) (hs : m e = .ok (xs.map enc, e0)) (vs0 : List (Option Ce)) (h00 : setL e0 ix vs0 = e0) (h0 : J 0 vs0)
    (step : ∀ k x vs, xs[k]? = some x → J k vs → ∃ e1, t (enc x) (setL e0 ix vs) = .ok e1 ∧ WP (b e1) (fun o => ∃ vs', o = .nx (setL e0 ix vs') ∧ J (k + 1) vs')) : ∃ e', sFor m t b e = .nx e' ∧ ∃ vs, e' = setL e0 ix vs ∧ J xs.length vs := by
  obtain ⟨e', h1, h2⟩ := for_nx (m := m) (t := t) (b := b) (fun k e => ∃ vs, e = setL e0 ix vs ∧ J k vs) hs ⟨vs0, h00.symm, h0⟩ (fun k d e hd ⟨vs, h1, h2⟩ => by
    rw [List.getElem?_map] at hd
    obtain ⟨x, hx, rfl⟩ := Option.map_eq_some_iff.mp hd
    subst h1
    obtain ⟨e1, h3, vs', h4, h5⟩ := step k x vs hx h2
    exact ⟨e1, h3, _, h4, vs', rfl, h5⟩)
  rw [List.length_map] at h2
  exact ⟨e', h1, h2⟩
/-- .. and it may be left -/
theorem for_uq {α : Type} (xs : List α) (enc : α → D) (ix : List Nat) (J : Nat → List (Option Ce) → Prop) (hs : m e = .ok (xs.map enc, e0)) (vs0 : List (Option Ce)) (h00 : setL e0 ix vs0 = e0) (h0 : J 0 vs0)
    (step : ∀ k x vs, xs[k]? = some x → J k vs → ∃ e1, t (enc x) (setL e0 ix vs) = .ok e1 ∧ WP (b e1) (fun o => (∃ vs', (o = .nx (setL e0 ix vs') ∨ o = .ct (setL e0 ix vs')) ∧ J (k + 1) vs') ∨ (∃ e2, o = .bk e2 ∧ Q (.nx e2)) ∨ ∃ c e2, o = .rt c e2 ∧ Q (.rt c e2)))
    (fin : ∀ vs, J xs.length vs → Q (.nx (setL e0 ix vs))) : WP (sFor m t b e) Q := by
  refine for_q (fun k e => ∃ vs, e = setL e0 ix vs ∧ J k vs) hs ⟨vs0, h00.symm, h0⟩ (fun k d e hd ⟨vs, h1, h2⟩ => ?_) (fun e ⟨vs, h1, h2⟩ => ?_)
  · rw [List.getElem?_map] at hd
    obtain ⟨x, hx, rfl⟩ := Option.map_eq_some_iff.mp hd
    subst h1
    obtain ⟨e1, h3, h4⟩ := step k x vs hx h2
    refine ⟨e1, h3, ?_⟩
    rcases h4 with ⟨vs', h5, h6⟩ | h4 | h4
    · exact .inl ⟨_, h5, vs', rfl, h6⟩
    · exact .inr (.inl h4)
    · exact .inr (.inr h4)
  · subst h1
    rw [List.length_map] at h2
    exact fin vs h2
end
/-- while, by a measure, with the slots ix changed; it may be left -/
theorem while_uq {t : M Bool} {b : En → Out} {e : En} {Q : Out → Prop} (ix : List Nat) (J : Nat → List (Option Ce) → Prop) (n : Nat) (vs0 : List (Option Ce)) (h00 : setL e ix vs0 = e) (h0 : J n vs0)
    (step : ∀ n vs, J n vs → ∃ k, t (setL e ix vs) = .ok (k, setL e ix vs) ∧ (k = false → Q (.nx (setL e ix vs))) ∧ (k = true → WP (b (setL e ix vs)) (fun o => (∃ vs' n', (o = .nx (setL e ix vs') ∨ o = .ct (setL e ix vs')) ∧ n' < n ∧ J n' vs') ∨ (∃ e2, o = .bk e2 ∧ Q (.nx e2)) ∨ ∃ c e2, o = .rt c e2 ∧ Q (.rt c e2)))) : WP (sWhile t b e) Q := by
  rcases while_inv (t := t) (b := b) (fun n e' => ∃ vs, e' = setL e ix vs ∧ J n vs) (fun e' => Q (.nx e')) (fun c e' => Q (.rt c e')) (fun n e' ⟨vs, h1, h2⟩ => by
    subst h1
    obtain ⟨k, h3, h4, h5⟩ := step n vs h2
    refine ⟨k, _, h3, h4, fun hk => ?_⟩
    rcases h5 hk with ⟨vs', n', h6, h7, h8⟩ | h6 | h6
    · exact .inl ⟨_, n', h6, h7, vs', rfl, h8⟩
    · exact .inr (.inl h6)
    · exact .inr (.inr h6)) n e ⟨vs0, h00.symm, h0⟩ with ⟨e', h1, h2⟩ | ⟨c, e', h1, h2⟩
  · unfold WP; rw [h1]; exact h2
  · unfold WP; rw [h1]; exact h2
theorem rgD_enc (lo : Int) (n : Nat) : rgD lo n = (List.range n).map fun (i : Nat) => D.int (lo + (i : Int)) := rgD_map lo n
/-! ### comprehensions -/
/-- a comprehension over enc x, x of xs, that changes nothing -/
theorem comp_p {α : Type} {src : M (List D)} {t : Tg} {vs is : List Nat} {c : M Bool} {m : M D} {e : En} (xs : List α) (enc : α → D) (p : α → Bool) (g : α → D) (hsrc : src e = .ok (xs.map enc, e)) (to : TgOk t is) (hs : ∀ i ∈ is, i ∈ vs) (hf : vs.all (frozenAt e) = true) (hz : xs.length < 16000000)
    (h : ∀ x ∈ xs, ∃ e1, t (enc x) (wipeE e vs) = .ok e1 ∧ c e1 = .ok (p x, e1) ∧ (p x = true → m e1 = .ok (g x, e1))) : mComp src t vs c m e = .ok (.l false ((xs.filter p).map g), e) := by
  obtain ⟨acc, e', h1, dn, rest, k1, k2, k3, k4, k5⟩ := cLoop_inv (t := t) (vs := vs) (c := c) (m := m) (fun ds acc e' => ∃ dn rest, xs = dn ++ rest ∧ ds = rest.map enc ∧ acc = (dn.filter p).map g ∧ wipeE e' vs = wipeE e vs ∧ vs.all (frozenAt e') = true)
    (fun ds acc e' ⟨_, _, _, _, _, _, k⟩ => k) (fun d ds acc e' ⟨dn, rest, k1, k2, k3, k4, k5⟩ => by
      cases rest with
      | nil => cases k2
      | cons x rest =>
        obtain ⟨rfl, rfl⟩ := List.cons.inj k2
        obtain ⟨e1, q1, q2, q3⟩ := h x (by rw [k1]; simp)
        have hl : acc.length ≤ dn.length := by rw [k3, List.length_map]; exact List.length_filter_le _ _
        have := congrArg List.length k1
        rw [List.length_append, List.length_cons] at this
        refine ⟨e1, p x, e1, by rw [k4]; exact q1, q2, fun z => ?_, fun z => ⟨g x, e1, q3 z, by omega, ?_⟩⟩
        · exact ⟨dn ++ [x], rest, by rw [k1]; simp, rfl, by rw [k3]; simp [z], wipeE_idem to hs q1, tg_fr to q1⟩
        · exact ⟨dn ++ [x], rest, by rw [k1]; simp, rfl, by rw [k3]; simp [z], wipeE_idem to hs q1, tg_fr to q1⟩) (xs.map enc) [] e ⟨[], xs, rfl, rfl, rfl, rfl, hf⟩
  rw [mComp_r, hsrc]
  simp only [Rs.bind_ok, h1]
  rw [restE_same k4, k3]
  have hr : rest = [] := by cases rest with
    | nil => rfl
    | cons x rest => cases k2
  rw [hr, List.append_nil] at k1
  rw [k1]
end DL
namespace DL
theorem sumD_map {α : Type} (xs : List α) (f : α → Int) : sumD [.list (xs.map fun x => D.int (f x))] = .ok (.f (.int (xs.map f).sum)) := by
  have := sumD_l (xs.map f)
  rwa [List.map_map] at this
theorem allD_map {α : Type} (xs : List α) (f : α → Bool) : allD [.list (xs.map fun x => D.bool (f x))] = .ok (.f (.bool (xs.all f))) := by
  have h : xs.map (fun x => D.bool (f x)) = (xs.map f).map .bool := by rw [List.map_map]; rfl
  rw [h]
  simp only [allD, boolsOf_bools, List.all_map]
  rfl
theorem anyD_map {α : Type} (xs : List α) (f : α → Bool) : anyD [.list (xs.map fun x => D.bool (f x))] = .ok (.f (.bool (xs.any f))) := by
  have h : xs.map (fun x => D.bool (f x)) = (xs.map f).map .bool := by rw [List.map_map]; rfl
  rw [h]
  simp only [anyD, boolsOf_bools, List.any_map]
  rfl
end DL
namespace DL
open PySem L2 PyProof.Rows
/-- two texts, told apart or not -/
theorem eqL (a b : Str) (r : Bool) (h : decide (a = b) = r) : eqD (.str a) (.str b) = .ok (.f (.bool r)) := by
  rw [eqD_s, ← h]
  rfl
theorem neL (a b : Str) (r : Bool) (h : decide (a = b) = r) : neD (.str a) (.str b) = .ok (.f (.bool (!r))) := by
  rw [neD_s, ← h]
  rfl
theorem rng1_n {ma : M (List D)} {e e' : En} {n : Nat} (h : ma e = .ok ([.int (n : Int)], e')) (hn : n < 2 ^ 62) : mRng1 ma e = .ok ((List.range n).map (fun (j : Nat) => D.int (j : Int)), e') := by
  rw [rng1_r h (by omega) (by omega), rgD_enc, Int.toNat_natCast]
  simp
theorem rng2_d {ma : M (List D)} {e e' : En} {lo hi : Int} {n : Nat} (h : ma e = .ok ([.int lo, .int hi], e')) (h1 : -(2 ^ 62) ≤ lo) (h2 : lo < 2 ^ 62) (h3 : -(2 ^ 62) ≤ hi) (h4 : hi < 2 ^ 62) (hn : (hi - lo).toNat = n) : mRng2 ma e = .ok ((List.range n).map (fun (j : Nat) => D.int (lo + (j : Int))), e') := by
  rw [mRng2_r, h]
  simp only [Rs.bind_ok]
  rw [if_pos ⟨h1, h2, h3, h4⟩, hn, rgD_enc]
end DL

namespace DL
open PySem L2 PyProof.Rows
/-! ### dicts whose keys are ints, made by a comprehension: only which keys are there -/
theorem dHas_ints (kl : List Int) (k : Int) : dHas (kl.map .int) (.int k) = decide (k ∈ kl) := by
  induction kl with
  | nil => rfl
  | cons a kl ih =>
    unfold dHas at *
    rw [List.map_cons, List.any_cons, ih, D.eqb]
    by_cases h : a = k
    · simp [h]
    · have h' : ¬ k = a := fun z => h z.symm
      simp [h, h']
theorem dPut_ints (kl : List Int) (ws : List D) (k : Int) (v : D) (hl : kl.length = ws.length) : ∃ kl' : List Int, dPutK (kl.map .int) (.int k) = kl'.map .int ∧ (dPutW (kl.map .int) ws (.int k) v).length = kl'.length ∧ (∀ z, z ∈ kl' ↔ z ∈ kl ∨ z = k) ∧ kl'.length ≤ kl.length + 1 := by
  have hv : ∀ (ks ws : List D), (dPutV ks ws (.int k) v).length = ws.length := by
    intro ks
    induction ks with
    | nil => intro ws; cases ws <;> simp [dPutV]
    | cons a ks ih =>
      intro ws
      cases ws with
      | nil => simp [dPutV]
      | cons w ws => simp only [dPutV]; split <;> simp [ih]
  unfold dPutK dPutW
  rw [dHas_ints]
  by_cases h : k ∈ kl
  · rw [decide_eq_true h]
    exact ⟨kl, rfl, by simp [hv, hl], fun z => ⟨.inl, fun q => q.elim id fun e => by rw [e]; exact h⟩, by omega⟩
  · rw [decide_eq_false h]
    exact ⟨kl ++ [k], by simp, by simp [hl], fun z => by simp, by simp⟩
theorem dcLoop_ints {α : Type} {t : Tg} {vs is : List Nat} {c : M Bool} {mk mv : M D} (enc : α → D) (f : α → Int) (g : α → D) (to : TgOk t is) (hs : ∀ i ∈ is, i ∈ vs) (e0 : En) : ∀ (xs : List α) (kl : List Int) (ws : List D) (e : En), vs.all (frozenAt e) = true → wipeE e vs = wipeE e0 vs → kl.length = ws.length → kl.length + xs.length < 16000000 →
    (∀ x ∈ xs, ∃ e1, t (enc x) (wipeE e0 vs) = .ok e1 ∧ c e1 = .ok (true, e1) ∧ mk e1 = .ok (.int (f x), e1) ∧ mv e1 = .ok (g x, e1)) →
    ∃ (kl' : List Int) (ws' : List D) (e' : En), dcLoop t vs c mk mv (xs.map enc) (kl.map .int) ws e = .ok ((kl'.map .int, ws'), e') ∧ wipeE e' vs = wipeE e0 vs ∧ kl'.length = ws'.length ∧ kl'.length ≤ kl.length + xs.length ∧ ∀ z, z ∈ kl' ↔ z ∈ kl ∨ ∃ x ∈ xs, f x = z
  | [], kl, ws, e, hf, hw, hl, _, _ => ⟨kl, ws, e, by rw [List.map_nil]; unfold dcLoop; rw [if_pos hf], hw, hl, by omega, fun z => by simp⟩
  | x :: xs, kl, ws, e, hf, hw, hl, hz, h => by
    obtain ⟨e1, h1, h2, h3, h4⟩ := h x List.mem_cons_self
    have hw1 := wipeE_idem to hs h1
    have hf1 := tg_fr to h1
    obtain ⟨kl1, p1, p2, p3, p4⟩ := dPut_ints kl ws (f x) (g x) hl
    rw [List.length_cons] at hz
    obtain ⟨kl', ws', e', q1, q2, q3, q4, q5⟩ := dcLoop_ints enc f g to hs e0 xs kl1 (dPutW (kl.map .int) ws (.int (f x)) (g x)) e1 hf1 hw1 p2.symm (by omega) fun y hy => h y (List.mem_cons_of_mem _ hy)
    refine ⟨kl', ws', e', ?_, q2, q3, by rw [List.length_cons]; omega, fun z => ?_⟩
    · rw [List.map_cons]
      unfold dcLoop
      rw [if_pos hf, hw, h1]
      simp only [Rs.bind_ok, h2, h3, h4, if_true]
      rw [if_pos ⟨rfl, by rw [List.length_map]; omega⟩, p1]
      exact q1
    · rw [q5, p3]
      constructor
      · rintro ((h | h) | ⟨y, hy, h⟩)
        · exact .inl h
        · exact .inr ⟨x, List.mem_cons_self, h.symm⟩
        · exact .inr ⟨y, List.mem_cons_of_mem _ hy, h⟩
      · rintro (h | ⟨y, hy, hq⟩)
        · exact .inl (.inl h)
        · rcases List.mem_cons.mp hy with rfl | hy
          · exact .inl (.inr hq.symm)
          · exact .inr ⟨y, hy, hq⟩
theorem dc_ints {α : Type} {src : M (List D)} {t : Tg} {vs is : List Nat} {c : M Bool} {mk mv : M D} {e : En} (xs : List α) (enc : α → D) (f : α → Int) (g : α → D) (hsrc : src e = .ok (xs.map enc, e)) (to : TgOk t is) (hs : ∀ i ∈ is, i ∈ vs) (hf : vs.all (frozenAt e) = true) (hz : xs.length < 16000000)
    (h : ∀ x ∈ xs, ∃ e1, t (enc x) (wipeE e vs) = .ok e1 ∧ c e1 = .ok (true, e1) ∧ mk e1 = .ok (.int (f x), e1) ∧ mv e1 = .ok (g x, e1)) :
    ∃ (kl : List Int) (ws : List D), mDComp src t vs c mk mv e = .ok (.k false false (kl.map .int) ws, e) ∧ kl.length = ws.length ∧ kl.length ≤ xs.length ∧ ∀ z, z ∈ kl ↔ ∃ x ∈ xs, f x = z := by
  obtain ⟨kl, ws, e', q1, q2, q3, q4, q5⟩ := dcLoop_ints enc f g to hs e xs [] [] e hf rfl rfl (by simpa using hz) h
  refine ⟨kl, ws, ?_, q3, by simpa using q4, fun z => by rw [q5]; simp⟩
  unfold mDComp
  rw [hsrc]
  simp only [Rs.bind_ok]
  rw [show dcLoop t vs c mk mv (xs.map enc) [] [] e = _ from q1]
  simp only [Rs.bind_ok]
  rw [restE_same q2]
/-- .. over the keys of another one -/
theorem dk_ints {i : Nat} {t : Tg} {vs is : List Nat} {c : M Bool} {mk mv : M D} {e : En} {kl : List Int} {ws : List D} (f : Int → Int) (g : Int → D) (hi : e[i]? = some (some (.k false false (kl.map .int) ws))) (hv : vs.contains i = false) (to : TgOk t is) (hs : ∀ i ∈ is, i ∈ vs) (hf : vs.all (frozenAt (e.set i none)) = true) (hz : kl.length < 16000000)
    (h : ∀ x ∈ kl, ∃ e1, t (.int x) (wipeE (e.set i none) vs) = .ok e1 ∧ c e1 = .ok (true, e1) ∧ mk e1 = .ok (.int (f x), e1) ∧ mv e1 = .ok (g x, e1)) :
    ∃ (kl' : List Int) (ws' : List D), mDKeys i t vs c mk mv e = .ok (.k false false (kl'.map .int) ws', e) ∧ kl'.length = ws'.length ∧ kl'.length ≤ kl.length ∧ ∀ z, z ∈ kl' ↔ ∃ x ∈ kl, f x = z := by
  obtain ⟨kl', ws', e', q1, q2, q3, q4, q5⟩ := dcLoop_ints (fun z : Int => D.int z) f g to hs (e.set i none) kl [] [] (e.set i none) hf rfl rfl (by simpa using hz) h
  refine ⟨kl', ws', ?_, q3, by simpa using q4, fun z => by rw [q5]; simp⟩
  unfold mDKeys
  rw [hi]
  simp only [hv]
  rw [show dcLoop t vs c mk mv (kl.map .int) [] [] (e.set i none) = _ from q1]
  simp only [Rs.bind_ok, Bool.false_eq_true, if_false]
  rw [restE_same q2, List.set_set]
  congr 3
  apply List.ext_getElem?
  intro j
  by_cases hj : i = j
  · subst hj
    have : i < e.length := (List.getElem?_eq_some_iff.mp hi).1
    rw [List.getElem?_set_self this, hi]
  · rw [List.getElem?_set_ne hj]
@[simp] theorem dinD_ints (kl : List Int) (ws : List D) (k : Int) : dinD (.int k) (.dict false (kl.map .int) ws) = .ok (.f (.bool (decide (k ∈ kl)))) := by
  show (if keyOk false (.int k) = true then Rs.ok (Ce.f (D.bool (dHas (kl.map .int) (.int k)))) else .no) = _
  rw [if_pos (show keyOk false (.int k) = true from rfl), dHas_ints]
/-! ### a comprehension that changes the slots ix -/
theorem setL_len (e : En) : ∀ (ix : List Nat) (ws : List (Option Ce)), (setL e ix ws).length = e.length
  | [], ws => by rw [setL_nil]
  | i :: ix, [] => rfl
  | i :: ix, w :: ws => by rw [setL_cons, setL_len (e.set i w) ix ws, List.length_set]
theorem setL_ne (e : En) {j : Nat} : ∀ (ix : List Nat) (ws : List (Option Ce)), j ∉ ix → (setL e ix ws)[j]? = e[j]?
  | [], ws, _ => by rw [setL_nil]
  | i :: ix, [], _ => rfl
  | i :: ix, w :: ws, h => by
    rw [List.mem_cons, not_or] at h
    rw [setL_cons, setL_ne (e.set i w) ix ws h.2, List.getElem?_set_ne (fun z => h.1 z.symm)]
theorem comp_st {α : Type} {src : M (List D)} {t : Tg} {vs is : List Nat} {m : M D} {e e0 : En} (xs : List α) (enc : α → D) (ix : List Nat) (J : Nat → List D → List (Option Ce) → Prop) (hsrc : src e = .ok (xs.map enc, e0)) (ws0 : List (Option Ce)) (h00 : setL e0 ix ws0 = e0) (h0 : J 0 [] ws0) (to : TgOk t is) (hs : ∀ i ∈ is, i ∈ vs) (hd : ∀ i ∈ ix, i ∉ vs) (hz : xs.length < 16000000) (hf : vs.all (frozenAt e0) = true)
    (step : ∀ k x acc ws, xs[k]? = some x → J k acc ws → ∃ e1 y e2 ws', t (enc x) (wipeE (setL e0 ix ws) vs) = .ok e1 ∧ m e1 = .ok (y, e2) ∧ wipeE e2 vs = wipeE (setL e0 ix ws') vs ∧ vs.all (frozenAt e2) = true ∧ J (k + 1) (acc ++ [y]) ws') :
    ∃ acc ws, mComp src t vs mYes m e = .ok (.l false acc, setL e0 ix ws) ∧ J xs.length acc ws := by
  have key : ∀ (rest pre : List α) (acc : List D) (e : En) (ws : List (Option Ce)), xs = pre ++ rest → acc.length = pre.length → J pre.length acc ws → wipeE e vs = wipeE (setL e0 ix ws) vs → vs.all (frozenAt e) = true → ∃ acc' e' ws', cLoop t vs mYes m (rest.map enc) acc e = .ok (acc', e') ∧ wipeE e' vs = wipeE (setL e0 ix ws') vs ∧ J xs.length acc' ws' := by
    intro rest
    induction rest with
    | nil =>
      intro pre acc e ws hx hl hJ hw hfr
      rw [List.append_nil] at hx
      subst hx
      exact ⟨acc, e, ws, by rw [List.map_nil]; unfold cLoop; rw [if_pos hfr], hw, hJ⟩
    | cons x rest ih =>
      intro pre acc e ws hx hl hJ hw hfr
      obtain ⟨e1, y, e2, ws', q1, q2, q3, q4, q5⟩ := step pre.length x acc ws (by rw [hx, List.getElem?_append_right (Nat.le_refl _), Nat.sub_self]; rfl) hJ
      obtain ⟨acc', e', ws2, g1, g2, g3⟩ := ih (pre ++ [x]) (acc ++ [y]) e2 ws' (by rw [hx]; simp) (by simp [hl]) (by rw [List.length_append]; exact q5) q3 q4
      refine ⟨acc', e', ws2, ?_, g2, g3⟩
      rw [List.map_cons]
      unfold cLoop
      rw [if_pos hfr, hw, q1]
      simp only [Rs.bind_ok, mYes_r, if_true, q2]
      rw [if_pos (by rw [hl]; rw [hx, List.length_append] at hz; omega)]
      exact g1
  obtain ⟨acc, e', ws, g1, g2, g3⟩ := key xs [] [] e0 ws0 rfl rfl h0 (by rw [h00]) hf
  refine ⟨acc, ws, ?_, g3⟩
  rw [mComp_r, hsrc]
  simp only [Rs.bind_ok, g1]
  congr 2
  have hl : e'.length = e0.length := by
    have := congrArg List.length g2
    rwa [wipeE_len, wipeE_len, setL_len] at this
  apply List.ext_getElem?
  intro j
  rw [restE_get e0 e' hl]
  by_cases hv : j ∈ vs
  · rw [if_pos hv, setL_ne _ _ _ (fun z => hd j z hv)]
  · rw [if_neg hv]
    have := congrArg (fun l => l[j]?) g2
    simp only [wipeE_get, if_neg hv] at this
    exact this
theorem cut_to (ds : List D) (n : Nat) : cutD ds none (some (n : Int)) = ds.take n := by
  unfold cutD
  rw [HT.sIx_none, HT.sIx_nat, List.drop_zero, Nat.sub_zero]
  rcases Nat.le_total n ds.length with h | h
  · rw [Nat.min_eq_left h]
  · rw [Nat.min_eq_right h, List.take_of_length_le (Nat.le_refl _), List.take_of_length_le h]
theorem cut_from (ds : List D) (n : Nat) : cutD ds (some (n : Int)) none = ds.drop n := by
  unfold cutD
  rw [HT.sIx_none, HT.sIx_nat]
  rcases Nat.le_total n ds.length with h | h
  · rw [Nat.min_eq_left h, List.take_of_length_le (by simp)]
  · rw [Nat.min_eq_right h, List.drop_of_length_le h, List.drop_of_length_le (Nat.le_refl _)]
    simp
/-- a body whose first argument is a box -/
theorem run_box {n : Nat} {m : En → Out} {cs : List Ce} {e e1 : En} {c : Ce} {b : List D} (hs : startE n cs = e) (hi : owIx 0 cs = [0]) (h : m e = .rt c e1) (hb : e1[0]? = some (some (.l true b))) : runD n m cs = .ok (c, [.l true b]) := by
  rw [runD_r, hs, h, hi]
  simp [hb]
/-! ### lists and tuples of ints, compared -/
theorem plA_int (n : Nat) (is : List Int) : D.plA (n + 1) (is.map .int) = true := by
  induction is with
  | nil => simp [D.plA]
  | cons i is ih => simp only [List.map_cons, D.plA, ih, D.pl, Bool.and_self]
theorem eqbA_int (xs ys : List Int) : D.eqbA (xs.map .int) (ys.map .int) = decide (xs = ys) := by
  induction xs generalizing ys with
  | nil => cases ys <;> simp [D.eqbA]
  | cons x xs ih =>
    cases ys with
    | nil => simp [D.eqbA]
    | cons y ys =>
      simp only [List.map_cons, D.eqbA, ih, D.eqb]
      by_cases h : x = y <;> simp [h]
theorem eqD_li (xs ys : List Int) : eqD (.list (xs.map .int)) (.list (ys.map .int)) = .ok (.f (.bool (decide (xs = ys)))) := by
  unfold eqD
  rw [if_pos (by simp [D.pl, plA_int])]
  simp only [D.eqb, eqbA_int]
theorem neD_li (xs ys : List Int) : neD (.list (xs.map .int)) (.list (ys.map .int)) = .ok (.f (.bool (!decide (xs = ys)))) := by
  unfold neD
  rw [if_pos (by simp [D.pl, plA_int])]
  simp only [D.eqb, eqbA_int]
theorem eqD_ti (xs ys : List Int) : eqD (.tuple (xs.map .int)) (.tuple (ys.map .int)) = .ok (.f (.bool (decide (xs = ys)))) := by
  unfold eqD
  rw [if_pos (by simp [D.pl, plA_int])]
  simp only [D.eqb, eqbA_int]
theorem neD_ti (xs ys : List Int) : neD (.tuple (xs.map .int)) (.tuple (ys.map .int)) = .ok (.f (.bool (!decide (xs = ys)))) := by
  unfold neD
  rw [if_pos (by simp [D.pl, plA_int])]
  simp only [D.eqb, eqbA_int]
end DL

namespace Md
open PySem L2 DL PyProof.Rows
noncomputable def m_is_whole : En → Out :=
  (sRet (mAndV (mN (mIs "int" (mH (mN (mVar 0))))) (mAndV (mN (mNotV (mN (mIs "bool" (mH (mN (mVar 0))))))) (mChain leD leD (mH (mN (mVar 1))) (mH (mN (mVar 0))) (mH (mN (mVar 2)))))))
noncomputable def m_is_name_f0d080 : En → Out :=
  (sSeq (sIf (mOr (mNot (mTru (mH (mN (mIs "str" (mH (mN (mVar 0)))))))) (mNot (mBool (mChain leD leD (mH (mN (mC (.int 1)))) (mH (mL lenD (aCons (mH (mN (mVar 0))) aNil))) (mH (mN (mC (.int 12)))))))) (sRet (mN (mC (.bool false)))) sNext)
    (sRet (mAndV (mS0 gIsascii (mVar 0)) (mAndV (mS0 gIsalnum (mVar 0)) (mAndV (mS0 gIsalpha (mZ (m2 ixD (mH (mN (mVar 0))) (mH (mN (mC (.int 0))))))) (m2 eqD (mH (mN (mVar 0))) (mH (mS0 gLower (mVar 0)))))))))
noncomputable def m_is_month (S_is_name S_is_whole : Sf) : En → Out :=
  (sRet (mAndV (mN (mIs "tuple" (mH (mN (mVar 0))))) (mAndV (m2 eqD (mH (mL lenD (aCons (mH (mN (mVar 0))) aNil))) (mH (mN (mC (.int 2))))) (mAndV (mCall S_is_name (aCons (aD (mZ (m2 ixD (mH (mN (mVar 0))) (mH (mN (mC (.int 0))))))) aNil)) (mCall S_is_whole (aCons (aD (mZ (m2 ixD (mH (mN (mVar 0))) (mH (mN (mC (.int 1))))))) (aCons (aD (mC (.int 1))) (aCons (aD (mC (.int 60))) aNil))))))))
noncomputable def m_is_leap_rule (S_is_whole : Sf) : En → Out :=
  (sSeq (sIf (mOr (mNot (mTru (mH (mN (mIs "tuple" (mH (mN (mVar 0)))))))) (mOr (mBool (m2 neD (mH (mL lenD (aCons (mH (mN (mVar 0))) aNil))) (mH (mN (mC (.int 3)))))) (mNot (mTru (mH (mCall S_is_whole (aCons (aD (mZ (m2 ixD (mH (mN (mVar 0))) (mH (mN (mC (.int 1))))))) (aCons (aD (mC (.int 1))) (aCons (aD (mC (.int 500))) aNil))))))))) (sRet (mN (mC (.bool false)))) sNext)
    (sRet (mAndV (mCall S_is_whole (aCons (aD (mZ (m2 ixD (mH (mN (mVar 0))) (mH (mN (mC (.int 0))))))) (aCons (aD (mC (.int 0))) (aCons (aD (mZ (m2 ixD (mH (mN (mVar 0))) (mH (mN (mC (.int 1))))))) aNil)))) (mCall S_is_whole (aCons (aD (mZ (m2 ixD (mH (mN (mVar 0))) (mH (mN (mC (.int 2))))))) (aCons (aD (mC (.int 0))) (aCons (aD (mZ (m2 subD (mH (m2 ixD (mH (mN (mVar 0))) (mH (mN (mC (.int 1)))))) (mH (mN (mC (.int 1))))))) aNil)))))))
noncomputable def m_is_calendar_e1 (S_is_month : Sf) : M D :=
  (mZ (mCall S_is_month (aCons (aD (mVar 7)) aNil)))
noncomputable def m_is_calendar_e2 : M D :=
  (mZ (m2 ixD (mH (mN (mVar 7))) (mH (mN (mC (.int 0))))))
noncomputable def m_is_calendar (S_is_month S_is_name S_is_leap_rule S_is_whole : Sf) : En → Out :=
  (sSeq (sIf (mOr (mNot (mTru (mH (mN (mIs "tuple" (mH (mN (mVar 0)))))))) (mOr (mBool (m2 neD (mH (mL lenD (aCons (mH (mN (mVar 0))) aNil))) (mH (mN (mC (.int 5)))))) (mBool (m2 neD (mH (m2 ixD (mH (mN (mVar 0))) (mH (mN (mC (.int 0)))))) (mH (mN (mC (.str "calendar")))))))) (sRet (mN (mC (.bool false)))) sNext)
    (sSeq (sTgt (tgT [(tgN 1), (tgN 2), (tgN 3), (tgN 4), (tgN 5)]) (mVar 0))
    (sSeq (sIf (mOr (mNot (mTru (mH (mN (mIs "tuple" (mH (mN (mVar 2)))))))) (mNot (mBool (mChain leD leD (mH (mN (mC (.int 1)))) (mH (mL lenD (aCons (mH (mN (mVar 2))) aNil))) (mH (mN (mC (.int 20)))))))) (sRet (mN (mC (.bool false)))) sNext)
    (sSeq (sIf (mOr (mNot (mTru (mH (mL allD (aCons (mH (mComp (mSeqA (mVar 2)) (tgN 7) [7] mYes (m_is_calendar_e1 S_is_month))) aNil))))) (mNot (mTru (mH (mCall S_is_name (aCons (aD (mVar 3)) aNil)))))) (sRet (mN (mC (.bool false)))) sNext)
    (sSeq (sAsgF 6 (mZ (mComp (mSeqA (mVar 2)) (tgN 7) [7] mYes m_is_calendar_e2)))
    (sRet (mAndV (m2 eqD (mH (mLenSet (mVar 6))) (mH (mL lenD (aCons (mH (mN (mVar 6))) aNil)))) (mAndV (m2 inD (mH (mN (mVar 3))) (mH (mN (mVar 6)))) (mAndV (mCall S_is_leap_rule (aCons (aD (mVar 4)) aNil)) (mCall S_is_whole (aCons (aD (mVar 5)) (aCons (aD (mC (.int 1))) (aCons (aD (mC (.int 30))) aNil)))))))))))))
noncomputable def m_is_leap (S_count : Sf) : En → Out :=
  (sSeq (sTgt (tgT [(tgN 2), (tgN 3), (tgN 4)]) (mZ (m2 ixD (mH (mN (mVar 0))) (mH (mN (mC (.int 3)))))))
    (sRet (m2 eqD (mH (m2 subD (mH (mCall S_count (aCons (aD (mVar 2)) (aCons (aD (mVar 3)) (aCons (aD (mVar 4)) (aCons (aD (mZ (m2 addD (mH (mN (mVar 1))) (mH (mN (mC (.int 1))))))) aNil)))))) (mH (mCall S_count (aCons (aD (mVar 2)) (aCons (aD (mVar 3)) (aCons (aD (mVar 4)) (aCons (aD (mVar 1)) aNil)))))))) (mH (mN (mC (.int 1)))))))
noncomputable def m_months_in_e1 : M D :=
  (mTup (aCons (mVar 3) (aCons (mZ (mIf (mBool (m2 eqD (mH (mN (mVar 3))) (mH (mN (mVar 2))))) (m2 addD (mH (mN (mVar 4))) (mH (mN (mC (.int 1))))) (mN (mVar 4)))) aNil)))
noncomputable def m_months_in (S_is_leap : Sf) : En → Out :=
  (sSeq (sAsgF 2 (mZ (mIf (mTru (mH (mCall S_is_leap (aCons (aD (mVar 0)) (aCons (aD (mVar 1)) aNil))))) (m2 ixD (mH (mN (mVar 0))) (mH (mN (mC (.int 2))))) (mN (mC .none)))))
    (sRet (mComp (mSeqA (mZ (m2 ixD (mH (mN (mVar 0))) (mH (mN (mC (.int 1))))))) (tgT [(tgN 3), (tgN 4)]) [3, 4] mYes m_months_in_e1)))
noncomputable def m_plain_days_e1 : M D :=
  (mVar 2)
noncomputable def m_plain_days : En → Out :=
  (sRet (mL sumD (aCons (mH (mComp (mSeqA (mZ (m2 ixD (mH (mN (mVar 0))) (mH (mN (mC (.int 1))))))) (tgT [(tgN 1), (tgN 2)]) [1, 2] mYes m_plain_days_e1)) aNil)))
noncomputable def m_days_ahead (S_plain_days S_count : Sf) : En → Out :=
  (sSeq (sTgt (tgT [(tgN 2), (tgN 3), (tgN 4)]) (mZ (m2 ixD (mH (mN (mVar 0))) (mH (mN (mC (.int 3)))))))
    (sRet (m2 addD (mH (m2 mulD (mH (mN (mVar 1))) (mH (mCall S_plain_days (aCons (aD (mVar 0)) aNil))))) (mH (mCall S_count (aCons (aD (mVar 2)) (aCons (aD (mVar 3)) (aCons (aD (mVar 4)) (aCons (aD (mVar 1)) aNil)))))))))
noncomputable def m_is_month_of_e1 : M D :=
  (mVar 2)
noncomputable def m_is_month_of (S_is_name : Sf) : En → Out :=
  (sRet (mAndV (mCall S_is_name (aCons (aD (mVar 0)) aNil)) (m2 inD (mH (mN (mVar 0))) (mH (mComp (mSeqA (mZ (m2 ixD (mH (mN (mVar 1))) (mH (mN (mC (.int 1))))))) (tgT [(tgN 2), (tgN 3)]) [2, 3] mYes m_is_month_of_e1)))))
noncomputable def m_month_span_b1 : En → Out :=
  (sSeq (sIf (mBool (m2 eqD (mH (mN (mVar 4))) (mH (mN (mVar 1))))) (sRet (mN (mTup (aCons (mVar 3) (aCons (mVar 5) aNil))))) sNext)
    (sAug iaddD 3 (mVar 5)))
noncomputable def m_month_span (S_days_ahead S_months_in : Sf) : En → Out :=
  (sSeq (sAsgF 3 (mZ (mCall S_days_ahead (aCons (aD (mVar 0)) (aCons (aD (mVar 2)) aNil)))))
    (sSeq (sFor (mSeqA (mZ (mCall S_months_in (aCons (aD (mVar 0)) (aCons (aD (mVar 2)) aNil))))) (tgT [(tgN 4), (tgN 5)]) m_month_span_b1)
    (sRet (mN (mC .none)))))
noncomputable def m_is_date (S_is_month_of S_is_whole S_month_span : Sf) : En → Out :=
  (sSeq (sIf (mOr (mNot (mTru (mH (mN (mIs "tuple" (mH (mN (mVar 0)))))))) (mBool (m2 neD (mH (mL lenD (aCons (mH (mN (mVar 0))) aNil))) (mH (mN (mC (.int 3))))))) (sRet (mN (mC (.bool false)))) sNext)
    (sSeq (sTgt (tgT [(tgN 2), (tgN 3), (tgN 4)]) (mVar 0))
    (sSeq (sIf (mOr (mNot (mTru (mH (mN (mIs "int" (mH (mN (mVar 2)))))))) (mOr (mTru (mH (mN (mIs "bool" (mH (mN (mVar 2))))))) (mNot (mTru (mH (mCall S_is_month_of (aCons (aD (mVar 3)) (aCons (aD (mVar 1)) aNil)))))))) (sRet (mN (mC (.bool false)))) sNext)
    (sRet (mCall S_is_whole (aCons (aD (mVar 4)) (aCons (aD (mC (.int 1))) (aCons (aD (mZ (m2 ixD (mH (mCall S_month_span (aCons (aD (mVar 1)) (aCons (aD (mVar 3)) (aCons (aD (mVar 2)) aNil))))) (mH (mN (mC (.int 1))))))) aNil))))))))
noncomputable def m_day_of (S_month_span : Sf) : En → Out :=
  (sSeq (sTgt (tgT [(tgN 2), (tgN 3), (tgN 4)]) (mVar 1))
    (sRet (m2 subD (mH (m2 addD (mH (m2 ixD (mH (mCall S_month_span (aCons (aD (mVar 0)) (aCons (aD (mVar 3)) (aCons (aD (mVar 2)) aNil))))) (mH (mN (mC (.int 0)))))) (mH (mN (mVar 4))))) (mH (mN (mC (.int 1)))))))
noncomputable def m_date_of_b1 : En → Out :=
  (sSeq (sIf (mBool (m2 ltD (mH (mN (mVar 6))) (mH (mN (mVar 8))))) (sRet (mN (mTup (aCons (mVar 5) (aCons (mVar 7) (aCons (mZ (m2 addD (mH (mN (mVar 6))) (mH (mN (mC (.int 1)))))) aNil)))))) sNext)
    (sAug subD 6 (mVar 8)))
noncomputable def m_date_of (S_plain_days S_days_ahead S_months_in : Sf) : En → Out :=
  (sSeq (sTgt (tgT [(tgN 2), (tgN 3), (tgN 4)]) (mZ (m2 ixD (mH (mN (mVar 0))) (mH (mN (mC (.int 3)))))))
    (sSeq (sAsgF 5 (mZ (m2 fdivD (mH (m2 subD (mH (m2 subD (mH (m2 mulD (mH (mN (mVar 3))) (mH (m2 addD (mH (mN (mVar 1))) (mH (mN (mC (.int 1)))))))) (mH (mN (mVar 4))))) (mH (mN (mC (.int 1)))))) (mH (m2 addD (mH (m2 mulD (mH (mN (mVar 3))) (mH (mCall S_plain_days (aCons (aD (mVar 0)) aNil))))) (mH (mN (mVar 2))))))))
    (sSeq (sAsgF 6 (mZ (m2 subD (mH (mN (mVar 1))) (mH (mCall S_days_ahead (aCons (aD (mVar 0)) (aCons (aD (mVar 5)) aNil)))))))
    (sSeq (sFor (mSeqA (mZ (mCall S_months_in (aCons (aD (mVar 0)) (aCons (aD (mVar 5)) aNil))))) (tgT [(tgN 7), (tgN 8)]) m_date_of_b1)
    (sRet (mN (mC .none)))))))
noncomputable def m_weekday : En → Out :=
  (sRet (m2 modD (mH (mN (mVar 1))) (mH (m2 ixD (mH (mN (mVar 0))) (mH (mN (mC (.int 4))))))))
noncomputable def m_round_of_days (S_plain_days : Sf) : En → Out :=
  (sSeq (sTgt (tgT [(tgN 1), (tgN 2), (tgN 3)]) (mZ (m2 ixD (mH (mN (mVar 0))) (mH (mN (mC (.int 3)))))))
    (sSeq (sAsgF 4 (mZ (mL gcdD (aCons (mH (mN (mVar 1))) (aCons (mH (mN (mVar 2))) aNil)))))
    (sSeq (sAsgF 5 (mZ (m2 fdivD (mH (mN (mVar 2))) (mH (mN (mVar 4))))))
    (sSeq (sAsgF 6 (mZ (m2 addD (mH (m2 mulD (mH (mN (mVar 5))) (mH (mCall S_plain_days (aCons (aD (mVar 0)) aNil))))) (mH (m2 fdivD (mH (mN (mVar 1))) (mH (mN (mVar 4))))))))
    (sSeq (sAsgF 7 (mZ (m2 fdivD (mH (m2 ixD (mH (mN (mVar 0))) (mH (mN (mC (.int 4)))))) (mH (mL gcdD (aCons (mH (mN (mVar 6))) (aCons (mH (m2 ixD (mH (mN (mVar 0))) (mH (mN (mC (.int 4)))))) aNil)))))))
    (sRet (mN (mTup (aCons (mZ (m2 mulD (mH (mN (mVar 5))) (mH (mN (mVar 7))))) (aCons (mZ (m2 mulD (mH (mN (mVar 6))) (mH (mN (mVar 7))))) aNil))))))))))
noncomputable def m_feast_days_e1 (S_feast_in : Sf) : M D :=
  (mZ (mCall S_feast_in (aCons (aD (mVar 0)) (aCons (aD (mVar 1)) (aCons (aD (mVar 2)) aNil)))))
noncomputable def m_feast_days (S_round_of_days S_feast_in : Sf) : En → Out :=
  (sRet (mComp (mRng1 (aCons (mZ (m2 ixD (mH (mCall S_round_of_days (aCons (aD (mVar 0)) aNil))) (mH (mN (mC (.int 0)))))) aNil)) (tgN 2) [2] mYes (m_feast_days_e1 S_feast_in)))
noncomputable def m_spread_b1 : En → Out :=
  (sLAug iaddD 3 (mZ (mIf (mBool (m2 isD (mH (mN (mVar 4))) (mH (mN (mC .none))))) (mN (mVar 2)) (m2 modD (mH (mN (mVar 4))) (mH (mN (mVar 2)))))) (mC (.int 1)))
noncomputable def m_spread (S_feast_days : Sf) : En → Out :=
  (sSeq (sAsgF 2 (mZ (m2 ixD (mH (mN (mVar 0))) (mH (mN (mC (.int 4)))))))
    (sSeq (sAsg 3 (m2 mulD (mH (mLst (aCons (mC (.int 0)) aNil))) (mH (m2 addD (mH (mN (mVar 2))) (mH (mN (mC (.int 1))))))))
    (sSeq (sFor (mSeqA (mZ (mCall S_feast_days (aCons (aD (mVar 0)) (aCons (aD (mVar 1)) aNil))))) (tgN 4) m_spread_b1)
    (sRet (mL tupleD (aCons (mSl 3) aNil))))))
noncomputable def m_fitted (S_minus S_plain_days S_compare S_nearest : Sf) : En → Out :=
  (sSeq (sTgt (tgT [(tgN 3), (tgN 4), (tgN 5), (tgN 3), (tgN 6)]) (mVar 0))
    (sSeq (sAsgF 7 (mZ (mCall S_minus (aCons (aD (mVar 1)) (aCons (aD (mTup (aCons (mZ (mCall S_plain_days (aCons (aD (mVar 0)) aNil))) (aCons (mC (.int 1)) aNil)))) aNil)))))
    (sSeq (sIf (mOr (mBool (m2 ltD (mH (mCall S_compare (aCons (aD (mVar 7)) (aCons (aD (mTup (aCons (mC (.int 0)) (aCons (mC (.int 1)) aNil)))) aNil)))) (mH (mN (mC (.int 0)))))) (mBool (m2 gtD (mH (mCall S_compare (aCons (aD (mVar 7)) (aCons (aD (mTup (aCons (mC (.int 1)) (aCons (mC (.int 1)) aNil)))) aNil)))) (mH (mN (mC (.int 0))))))) (sRet (mN (mC .none))) sNext)
    (sSeq (sTgt (tgT [(tgN 8), (tgN 9)]) (mZ (mCall S_nearest (aCons (aD (mVar 7)) (aCons (aD (mVar 2)) aNil)))))
    (sRet (mN (mTup (aCons (mC (.str "calendar")) (aCons (mVar 4) (aCons (mVar 5) (aCons (mTup (aCons (mVar 8) (aCons (mVar 9) (aCons (mC (.int 0)) aNil)))) (aCons (mVar 6) aNil))))))))))))
end Md

namespace ShC
open PySem L2 DL PyProof.Rows Md Sh ShW
abbrev Mo := Str × Int
/-- a calendar: its months, the longer one, the leap rule, the week -/
structure Cal where
  ms : List Mo
  lg : Str
  a : Nat
  b : Nat
  c : Nat
  wk : Nat
def monD (m : Mo) : D := .tuple [.str m.1, .int m.2]
def msD (ms : List Mo) : List D := ms.map monD
def Cal.d (C : Cal) : D := .tuple [.str "calendar", .tuple (msD C.ms), .str C.lg, .tuple [.int (C.a : Int), .int (C.b : Int), .int (C.c : Int)], .int (C.wk : Int)]
def nmOk (s : Str) : Bool := decide (1 ≤ s.length) && decide (s.length ≤ 12) && Txt.isascii s && Txt.isalnum s && (match s.cps.toList with | c :: _ => Txt.isalpha ⟨#[c]⟩ | [] => false) && (s == Txt.lower s) && s.cps.all (fun x => decide (x < 1114112))
structure Cal.Ok (C : Cal) : Prop where
  m0 : 0 < C.ms.length
  m1 : C.ms.length ≤ 20
  nd : (C.ms.map (·.1)).Nodup
  nm : ∀ m ∈ C.ms, nmOk m.1 = true
  d0 : ∀ m ∈ C.ms, 1 ≤ m.2
  d1 : ∀ m ∈ C.ms, m.2 ≤ 60
  lg : C.lg ∈ C.ms.map (·.1)
  b0 : 0 < C.b
  b1 : C.b ≤ 500
  ab : C.a ≤ C.b
  cb : C.c < C.b
  w0 : 0 < C.wk
  w1 : C.wk ≤ 30
def dys (ms : List Mo) : Int := (ms.map (·.2)).sum
def Cal.p (C : Cal) : Int := dys C.ms
def Cal.L (C : Cal) (y : Int) : Int := ((C.a : Int) * y + C.c) / C.b
def Cal.Ah (C : Cal) (y : Int) : Int := y * C.p + C.L y
def Cal.more (C : Cal) (y : Int) : Int := C.L (y + 1) - C.L y
def Cal.mY (C : Cal) (y : Int) : List Mo := C.ms.map fun m => (m.1, if m.1 = C.lg then m.2 + C.more y else m.2)
section
variable {C : Cal}
theorem Cal.Ok.more01 (h : C.Ok) (y : Int) : C.more y = 0 ∨ C.more y = 1 := by
  have b0 := h.b0
  have ab := h.ab
  unfold Cal.more Cal.L
  rw [show (C.a : Int) * (y + 1) + C.c = ((C.a : Int) * y + C.c) + C.a by rw [Int.mul_add]; omega]
  rcases Nat.lt_or_ge C.a C.b with z | z
  · have := floor_win (b := C.b) (x := (C.a : Int) * y + C.c) (y := (C.a : Int)) b0
    rw [Int.ediv_eq_zero_of_lt (a := (C.a : Int)) (b := (C.b : Int)) (by omega) (by omega)] at this
    omega
  · right
    rw [show ((C.a : Int) * y + C.c) + C.a = ((C.a : Int) * y + C.c) + (C.b : Int) * 1 by omega, Int.add_mul_ediv_left _ _ (by omega)]
    omega
theorem Cal.Ok.p1 (h : C.Ok) : 1 ≤ C.p := by
  have key : ∀ ms : List Mo, (∀ m ∈ ms, 1 ≤ m.2) → (ms.length : Int) ≤ dys ms := by
    intro ms
    induction ms with
    | nil => intro _; exact Int.le_refl _
    | cons m ms ih =>
      intro hm
      have h1 := ih fun x hx => hm x (List.mem_cons_of_mem _ hx)
      have h2 := hm m List.mem_cons_self
      simp only [dys, List.map_cons, List.sum_cons, List.length_cons] at *
      omega
  have := key C.ms h.d0
  have := h.m0
  unfold Cal.p
  omega
theorem Cal.Ok.p2 (h : C.Ok) : C.p ≤ 1200 := by
  have key : ∀ ms : List Mo, (∀ m ∈ ms, m.2 ≤ 60) → dys ms ≤ 60 * (ms.length : Int) := by
    intro ms
    induction ms with
    | nil => intro _; exact Int.le_refl _
    | cons m ms ih =>
      intro hm
      have h1 := ih fun x hx => hm x (List.mem_cons_of_mem _ hx)
      have h2 := hm m List.mem_cons_self
      simp only [dys, List.map_cons, List.sum_cons, List.length_cons] at *
      omega
  have := key C.ms h.d1
  have := h.m1
  unfold Cal.p
  omega
/-- the longer month takes the day more -/
theorem Cal.Ok.mY_sum (h : C.Ok) (y : Int) : dys (C.mY y) = C.p + C.more y := by
  have key : ∀ ms : List Mo, (ms.map (·.1)).Nodup → dys (ms.map fun m => (m.1, if m.1 = C.lg then m.2 + C.more y else m.2)) = dys ms + if C.lg ∈ ms.map (·.1) then C.more y else 0 := by
    intro ms
    induction ms with
    | nil => intro _; simp [dys]
    | cons m ms ih =>
      intro hn
      rw [List.map_cons, List.nodup_cons] at hn
      have h1 := ih hn.2
      simp only [dys, List.map_cons, List.sum_cons] at *
      rw [h1]
      by_cases e : m.1 = C.lg
      · have hno : C.lg ∉ ms.map (·.1) := by rw [← e]; exact hn.1
        rw [if_pos e, if_neg hno, if_pos (by rw [e]; exact List.mem_cons_self)]
        omega
      · have hi : (C.lg ∈ m.1 :: ms.map (·.1)) ↔ C.lg ∈ ms.map (·.1) := by
          rw [List.mem_cons]
          exact ⟨fun z => z.resolve_left fun q => e q.symm, .inr⟩
        rw [if_neg e]
        simp only [hi]
        omega
  unfold Cal.mY Cal.p
  rw [key C.ms h.nd, if_pos h.lg]
theorem Cal.Ok.Ah_succ (h : C.Ok) (y : Int) : C.Ah (y + 1) = C.Ah y + dys (C.mY y) := by
  rw [h.mY_sum]
  unfold Cal.Ah Cal.more
  rw [Int.add_mul]
  omega
theorem Cal.Ok.smA (h : C.Ok) : Sm (C.a : Int) := by
  have := h.ab
  have := h.b1
  exact ⟨by omega, by omega⟩
theorem Cal.Ok.divB (h : C.Ok) : DivOk (C.b : Int) := by
  have := h.b0
  have := h.b1
  exact divS (by omega) (by omega)
theorem Cal.Ok.cnt (h : C.Ok) (y : Int) : S_count [.f (.int (C.a : Int)), .f (.int (C.b : Int)), .f (.int (C.c : Int)), .f (.int y)] = .ok (.f (.int (C.L y)), []) := by
  have := h.b0
  have := h.b1
  exact count_r h.smA (by omega) (by omega)
end
theorem cal_ix0 (C : Cal) : ixD C.d (.int 0) = .ok (.f (.str "calendar")) := rfl
theorem cal_ix1 (C : Cal) : ixD C.d (.int 1) = .ok (.f (.tuple (msD C.ms))) := rfl
theorem cal_ix2 (C : Cal) : ixD C.d (.int 2) = .ok (.f (.str C.lg)) := rfl
theorem cal_ix3 (C : Cal) : ixD C.d (.int 3) = .ok (.f (.tuple [.int (C.a : Int), .int (C.b : Int), .int (C.c : Int)])) := rfl
theorem cal_ix4 (C : Cal) : ixD C.d (.int 4) = .ok (.f (.int (C.wk : Int))) := rfl
section
variable {C : Cal}
/-! ### is_leap, months_in, plain_days, days_ahead -/
noncomputable def S_is_leap : Sf := spN 2 5 (m_is_leap S_count)
theorem sem_is_leap : ∀ cs c outs, S_is_leap cs = .ok (c, outs) → cs.length = 2 ∧ runD 5 (m_is_leap S_count) cs = .ok (c, outs) := spN_sem
theorem is_leap_r (h : C.Ok) (y : Int) : S_is_leap [.f C.d, .f (.int y)] = .ok (.f (.bool (decide (C.more y = 1))), []) := spN_r rfl (by
  have k1 := h.cnt (y + 1)
  have k2 := h.cnt y
  have k3 := cal_ix3 C
  have e : (C.L (y + 1) - C.L y == 1) = decide (C.more y = 1) := by
    unfold Cal.more
    by_cases q : C.L (y + 1) - C.L y = 1
    · simp [q]
    · simp [q]
  generalize C.d = X at *
  simp [runD_r, startE, m_is_leap, k1, k2, k3, e])
noncomputable def S_months_in : Sf := spN 2 5 (m_months_in S_is_leap)
theorem sem_months_in : ∀ cs c outs, S_months_in cs = .ok (c, outs) → cs.length = 2 ∧ runD 5 (m_months_in S_is_leap) cs = .ok (c, outs) := spN_sem
theorem mi_comp (C : Cal) (hl : C.ms.length ≤ 20) (y : Int) (lp : D) (g : Mo → Mo) (hg : ∀ m ∈ C.ms, g m = (m.1, (g m).2) ∧ ((eqD (.str m.1) lp = .ok (.f (.bool true)) ∧ (g m).2 = m.2 + 1) ∨ (eqD (.str m.1) lp = .ok (.f (.bool false)) ∧ (g m).2 = m.2))) : mComp (mSeqA (mZ (m2 ixD (mH (mN (mVar 0))) (mH (mN (mC (.int 1))))))) (tgT [(tgN 3), (tgN 4)]) [3, 4] mYes m_months_in_e1 [some (.f C.d), some (.f (.int y)), some (.f lp), none, none] = .ok (.l false (C.ms.map fun m => monD (g m)), [some (.f C.d), some (.f (.int y)), some (.f lp), none, none]) := by
  have k1 := cal_ix1 C
  refine mComp_of C.ms monD _ ?_ (tgOk_t (.cons (tgOk_n 3) (.cons (tgOk_n 4) .nil))) (by simp) (by simp) (hz_of (by omega)) fun m hm => ?_
  · generalize C.d = X at *
    simp [k1]
    rfl
  · refine ⟨[some (.f C.d), some (.f (.int y)), some (.f lp), some (.f (.str m.1)), some (.f (.int m.2))], by simp [wipeE, monD], ?_⟩
    obtain ⟨e, ⟨q1, q2⟩ | ⟨q1, q2⟩⟩ := hg m hm
    · rw [e, q2]; simp [m_months_in_e1, q1, monD]
    · rw [e, q2]; simp [m_months_in_e1, q1, monD]
theorem nm_none {s : Str} (h : nmOk s = true) : eqD (.str s) .none = .ok (.f (.bool false)) := by
  have hc : (s.cps.all fun x => decide (x < 1114112)) = true := (Bool.and_eq_true _ _ ▸ h).2
  simp only [eqD, D.sc, D.pl, D.eqb, hc]
  rfl
theorem eq_nm (s t : Str) : eqD (.str s) (.str t) = .ok (.f (.bool (decide (s = t)))) := by
  rw [eqD_s]
  rfl
theorem months_s {z : M Ce} {X lp y : D} {R : List D} {b : Bool} (k1 : S_is_leap [.f X, .f y] = .ok (.f (.bool b), [])) (k2 : ixD X (.int 2) = .ok (.f lp)) (hz : z [some (.f X), some (.f y), some (.f (if b = true then lp else .none)), none, none] = .ok (.l false R, [some (.f X), some (.f y), some (.f (if b = true then lp else .none)), none, none])) :
    sSeq (sAsgF 2 (mZ (mIf (mTru (mH (mCall S_is_leap (aCons (aD (mVar 0)) (aCons (aD (mVar 1)) aNil))))) (m2 ixD (mH (mN (mVar 0))) (mH (mN (mC (.int 2))))) (mN (mC .none))))) (sRet z) [some (.f X), some (.f y), none, none, none] = .rt (.l false R) [some (.f X), some (.f y), some (.f (if b = true then lp else .none)), none, none] := by
  cases b
  · simp at hz
    simp [k1, hz]
  · simp at hz
    simp [k1, k2, hz]
theorem months_in_r (h : C.Ok) (y : Int) : S_months_in [.f C.d, .f (.int y)] = .ok (.l false (msD (C.mY y)), []) := spN_r rfl (by
  have k1 := is_leap_r h y
  have k2 := cal_ix2 C
  have e0 : msD (C.mY y) = C.ms.map fun m => monD (m.1, if m.1 = C.lg then m.2 + C.more y else m.2) := by
    unfold msD Cal.mY
    rw [List.map_map]
    rfl
  have hz : mComp (mSeqA (mZ (m2 ixD (mH (mN (mVar 0))) (mH (mN (mC (.int 1))))))) (tgT [(tgN 3), (tgN 4)]) [3, 4] mYes m_months_in_e1 [some (.f C.d), some (.f (.int y)), some (.f (if decide (C.more y = 1) = true then .str C.lg else .none)), none, none] = .ok (.l false (msD (C.mY y)), [some (.f C.d), some (.f (.int y)), some (.f (if decide (C.more y = 1) = true then .str C.lg else .none)), none, none]) := by
    rw [e0]
    refine mi_comp C h.m1 y _ (fun m => (m.1, if m.1 = C.lg then m.2 + C.more y else m.2)) fun m hm => ⟨rfl, ?_⟩
    rcases h.more01 y with q | q
    · right
      rw [q]
      exact ⟨nm_none (h.nm m hm), by simp⟩
    · rw [q]
      simp only [decide_true, if_true]
      rw [eq_nm]
      by_cases e : m.1 = C.lg
      · left; rw [decide_eq_true e, if_pos e]; exact ⟨rfl, rfl⟩
      · right; rw [decide_eq_false e, if_neg e]; exact ⟨rfl, rfl⟩
  rw [runD_r, show startE 5 [.f C.d, .f (.int y)] = [some (.f C.d), some (.f (.int y)), none, none, none] from rfl]
  unfold m_months_in
  rw [months_s k1 k2 hz]
  rfl)
noncomputable def S_plain_days : Sf := spN 1 3 m_plain_days
theorem sem_plain_days : ∀ cs c outs, S_plain_days cs = .ok (c, outs) → cs.length = 1 ∧ runD 3 m_plain_days cs = .ok (c, outs) := spN_sem
theorem days_map (ms : List Mo) : (ms.map fun m => D.int m.2) = (ms.map (·.2)).map .int := by rw [List.map_map]; rfl
theorem pd_s {z : M Ce} {e : En} {is : List Int} (hz : z e = .ok (.l false (is.map .int), e)) : sRet (mL sumD (aCons (mH z) aNil)) e = .rt (.f (.int is.sum)) e := by
  simp [hz]
theorem items_ms {e : En} {X : D} (hX : e[0]? = some (some (.f X))) {ms : List Mo} (hx : ixD X (.int 1) = .ok (.f (.tuple (msD ms)))) : mSeqA (mZ (m2 ixD (mH (mN (mVar 0))) (mH (mN (mC (.int 1)))))) e = .ok (ms.map monD, e) := by
  simp [hX, hx]
  rfl
theorem plain_days_r (h : C.Ok) : S_plain_days [.f C.d] = .ok (.f (.int C.p), []) := spN_r rfl (by
  have hz : mComp (mSeqA (mZ (m2 ixD (mH (mN (mVar 0))) (mH (mN (mC (.int 1))))))) (tgT [(tgN 1), (tgN 2)]) [1, 2] mYes m_plain_days_e1 [some (.f C.d), none, none] = .ok (.l false ((C.ms.map (·.2)).map .int), [some (.f C.d), none, none]) := by
    rw [← days_map]
    refine mComp_of C.ms monD _ (items_ms rfl (cal_ix1 C)) (tgOk_t (.cons (tgOk_n 1) (.cons (tgOk_n 2) .nil))) (by simp) (by simp) (hz_of (by have := h.m1; omega)) fun m hm => ?_
    exact ⟨[some (.f C.d), some (.f (.str m.1)), some (.f (.int m.2))], by simp [wipeE, monD], by simp [m_plain_days_e1]⟩
  rw [runD_r, show startE 3 [.f C.d] = [some (.f C.d), none, none] from rfl]
  unfold m_plain_days
  rw [pd_s hz]
  rfl)
noncomputable def S_days_ahead : Sf := spN 2 5 (m_days_ahead S_plain_days S_count)
theorem sem_days_ahead : ∀ cs c outs, S_days_ahead cs = .ok (c, outs) → cs.length = 2 ∧ runD 5 (m_days_ahead S_plain_days S_count) cs = .ok (c, outs) := spN_sem
theorem Cal.Ok.mulP (h : C.Ok) (y : Int) : MulOk y C.p := by
  have := h.p1
  have := h.p2
  exact mulOk_r' (by omega) (by omega)
theorem days_ahead_r (h : C.Ok) (y : Int) : S_days_ahead [.f C.d, .f (.int y)] = .ok (.f (.int (C.Ah y)), []) := spN_r rfl (by
  have k1 := h.cnt y
  have k2 := plain_days_r h
  have k3 := cal_ix3 C
  have m := mulD_i (h.mulP y)
  unfold Cal.Ah
  generalize C.d = X at *
  simp [runD_r, startE, m_days_ahead, k1, k2, k3, m])
end

/-! ### the span of a month -/
def spanF (m : Str) : List Mo → Int → Option (Int × Int)
  | [], _ => none
  | (n, d) :: r, beg => if n = m then some (beg, d) else spanF m r (beg + d)
theorem spanF_at {m : Str} : ∀ {ms : List Mo} {i : Nat} {d beg : Int}, (ms.map (·.1)).Nodup → ms[i]? = some (m, d) → spanF m ms beg = some (beg + dys (ms.take i), d)
  | [], i, d, beg, _, h => by simp at h
  | (n, e) :: ms, 0, d, beg, _, h => by
    simp at h
    obtain ⟨rfl, rfl⟩ := h
    simp [spanF, dys]
  | (n, e) :: ms, i + 1, d, beg, hn, h => by
    rw [List.map_cons, List.nodup_cons] at hn
    rw [List.getElem?_cons_succ] at h
    have hne : n ≠ m := fun q => hn.1 (by rw [q]; exact List.mem_map.mpr ⟨_, List.mem_of_getElem? h, rfl⟩)
    unfold spanF
    rw [if_neg hne, spanF_at hn.2 h]
    simp [dys]
    omega
section
variable {C : Cal}
theorem sp_loop {X Y : D} {m : Str} : ∀ (ms : List Mo) (beg : Int) (c4 c5 : Option D) (u v : Int), spanF m ms beg = some (u, v) → ∃ e', loopL (tgT [(tgN 4), (tgN 5)]) m_month_span_b1 (ms.map monD) [some (.f X), some (.f (.str m)), some (.f Y), some (.f (.int beg)), c4.map .f, c5.map .f] = .rt (.f (.tuple [.int u, .int v])) e'
  | [], beg, c4, c5, u, v, h => by cases h
  | (n, d) :: ms, beg, c4, c5, u, v, h => by
    have t : tgT [(tgN 4), (tgN 5)] (monD (n, d)) [some (.f X), some (.f (.str m)), some (.f Y), some (.f (.int beg)), c4.map .f, c5.map .f] = .ok [some (.f X), some (.f (.str m)), some (.f Y), some (.f (.int beg)), some (.f (.str n)), some (.f (.int d))] := by
      cases c4 <;> cases c5 <;> simp [monD]
    have e := eq_nm n m
    unfold spanF at h
    by_cases q : n = m
    · rw [if_pos q] at h
      rw [decide_eq_true q] at e
      cases h
      refine ⟨[some (.f X), some (.f (.str m)), some (.f Y), some (.f (.int beg)), some (.f (.str n)), some (.f (.int d))], loop_rt t ?_⟩
      simp [m_month_span_b1, e]
    · rw [if_neg q] at h
      rw [decide_eq_false q] at e
      obtain ⟨e', g⟩ := sp_loop (X := X) (Y := Y) ms (beg + d) (some (.str n)) (some (.int d)) u v h
      refine ⟨e', (loop_nx t ?_).trans g⟩
      simp [m_month_span_b1, e]
noncomputable def S_month_span : Sf := spN 3 6 (m_month_span S_days_ahead S_months_in)
theorem sem_month_span : ∀ cs c outs, S_month_span cs = .ok (c, outs) → cs.length = 3 ∧ runD 6 (m_month_span S_days_ahead S_months_in) cs = .ok (c, outs) := spN_sem
theorem Cal.Ok.ndY (h : C.Ok) (y : Int) : ((C.mY y).map (·.1)).Nodup := by
  have : (C.mY y).map (·.1) = C.ms.map (·.1) := by
    unfold Cal.mY
    rw [List.map_map]
    rfl
  rw [this]
  exact h.nd
theorem month_span_r (h : C.Ok) (y : Int) {i : Nat} {m : Str} {d : Int} (hi : (C.mY y)[i]? = some (m, d)) : S_month_span [.f C.d, .f (.str m), .f (.int y)] = .ok (.f (.tuple [.int (C.Ah y + dys ((C.mY y).take i)), .int d]), []) := spN_r rfl (by
  have k1 := days_ahead_r h y
  have k2 := months_in_r h y
  obtain ⟨e', g⟩ := sp_loop (X := C.d) (Y := .int y) (C.mY y) (C.Ah y) none none _ _ (spanF_at (h.ndY y) hi)
  have s1 : sAsgF 3 (mZ (mCall S_days_ahead (aCons (aD (mVar 0)) (aCons (aD (mVar 2)) aNil)))) [some (.f C.d), some (.f (.str m)), some (.f (.int y)), none, none, none] = .nx [some (.f C.d), some (.f (.str m)), some (.f (.int y)), some (.f (.int (C.Ah y))), none, none] := by
    generalize C.d = X at *
    simp [k1]
  have s2 : mSeqA (mZ (mCall S_months_in (aCons (aD (mVar 0)) (aCons (aD (mVar 2)) aNil)))) [some (.f C.d), some (.f (.str m)), some (.f (.int y)), some (.f (.int (C.Ah y))), none, none] = .ok ((C.mY y).map monD, [some (.f C.d), some (.f (.str m)), some (.f (.int y)), some (.f (.int (C.Ah y))), none, none]) := by
    generalize C.d = X at *
    simp [k2]
    rfl
  have key : m_month_span S_days_ahead S_months_in [some (.f C.d), some (.f (.str m)), some (.f (.int y)), none, none, none] = .rt (.f (.tuple [.int (C.Ah y + dys ((C.mY y).take i)), .int d])) e' := by
    unfold m_month_span
    rw [seq_nx s1, seq_rt ((for_rD s2).trans g)]
  rw [runD_r, show startE 6 [.f C.d, .f (.str m), .f (.int y)] = [some (.f C.d), some (.f (.str m)), some (.f (.int y)), none, none, none] from rfl, key]
  rfl)
/-! ### names -/
noncomputable def S_is_name : Sf := spN 1 1 m_is_name_f0d080
theorem sem_is_name : ∀ cs c outs, S_is_name cs = .ok (c, outs) → cs.length = 1 ∧ runD 1 m_is_name_f0d080 cs = .ok (c, outs) := spN_sem
theorem is_name_r {s : Str} (h : nmOk s = true) : S_is_name [.f (.str s)] = .ok (.f (.bool true), []) := spN_r rfl (by
  unfold nmOk at h
  simp only [Bool.and_eq_true, decide_eq_true_eq] at h
  obtain ⟨⟨⟨⟨⟨⟨h1, h2⟩, h3⟩, h4⟩, h5⟩, h6⟩, h7⟩ := h
  have hl : lenD [.str s] = .ok (.f (.int (s.length : Int))) := if_pos (sizeLine_ge _ (by omega))
  have q1 : (1 : Int) ≤ (s.length : Int) := by omega
  have q2 : (s.length : Int) ≤ 12 := by omega
  cases hc : s.cps.toList with
  | nil => rw [hc] at h5; cases h5
  | cons c cs =>
    rw [hc] at h5
    dsimp only at h5
    have hi : ixD (.str s) (.int 0) = .ok (.f (.str ⟨#[c]⟩)) := by
      show (if s.length ≤ sizeLine then (match atI s.cps.toList 0 with | some c => Rs.ok (Ce.f (.str ⟨#[c]⟩)) | _ => .no) else .no) = _
      have ha : atI (c :: cs) 0 = some c := by
        unfold atI ixN
        rw [if_pos (by omega), if_pos (by rw [List.length_cons]; omega)]
        rfl
      rw [if_pos (sizeLine_ge _ (by omega)), hc, ha]
    have g1 : gIsascii s = .ok (.bool true) := by rw [gIsascii, h3]
    have g2 : gIsalnum s = .ok (.bool true) := by rw [gIsalnum, h4]
    have g3 : gIsalpha ⟨#[c]⟩ = .ok (.bool true) := by rw [gIsalpha, h5]
    have g4 : gLower s = .ok (.str (Txt.lower s)) := if_pos (by omega)
    have g5 := eq_nm s (Txt.lower s)
    rw [decide_eq_true (eq_of_beq h6)] at g5
    generalize s.length = n at *
    generalize Txt.lower s = ls at *
    simp [runD_r, startE, m_is_name_f0d080, hl, q1, q2, hi, g1, g2, g3, g4, g5])
noncomputable def S_is_whole : Sf := spN 3 3 m_is_whole
theorem sem_is_whole : ∀ cs c outs, S_is_whole cs = .ok (c, outs) → cs.length = 3 ∧ runD 3 m_is_whole cs = .ok (c, outs) := spN_sem
theorem whole_in {i lo hi : Int} (h1 : lo ≤ i) (h2 : i ≤ hi) : S_is_whole [.f (.int i), .f (.int lo), .f (.int hi)] = .ok (.f (.bool true), []) := spN_r rfl (by
  simp [runD_r, startE, m_is_whole, h1, h2])
noncomputable def S_is_month_of : Sf := spN 2 4 (m_is_month_of S_is_name)
theorem sem_is_month_of : ∀ cs c outs, S_is_month_of cs = .ok (c, outs) → cs.length = 2 ∧ runD 4 (m_is_month_of S_is_name) cs = .ok (c, outs) := spN_sem
theorem names_map (ms : List Mo) : (ms.map fun m => D.str m.1) = (ms.map (·.1)).map .str := by rw [List.map_map]; rfl
theorem imo_s {z : M Ce} {X : D} {m : Str} {ns : List Str} (k1 : S_is_name [.f (.str m)] = .ok (.f (.bool true), [])) (hm : (ns.any fun y => y == m) = true) (hz : z [some (.f (.str m)), some (.f X), none, none] = .ok (.l false (ns.map .str), [some (.f (.str m)), some (.f X), none, none])) : sRet (mAndV (mCall S_is_name (aCons (aD (mVar 0)) aNil)) (m2 inD (mH (mN (mVar 0))) (mH z))) [some (.f (.str m)), some (.f X), none, none] = .rt (.f (.bool true)) [some (.f (.str m)), some (.f X), none, none] := by
  have := inD_l m ns
  rw [hm] at this
  generalize ns.map D.str = nd at *
  simp [k1, hz, this]
theorem is_month_of_r (h : C.Ok) {m : Str} (hm : m ∈ C.ms.map (·.1)) : S_is_month_of [.f (.str m), .f C.d] = .ok (.f (.bool true), []) := spN_r rfl (by
  have k1 : S_is_name [.f (.str m)] = .ok (.f (.bool true), []) := by
    obtain ⟨x, hx, rfl⟩ := List.mem_map.mp hm
    exact is_name_r (h.nm x hx)
  have hz : mComp (mSeqA (mZ (m2 ixD (mH (mN (mVar 1))) (mH (mN (mC (.int 1))))))) (tgT [(tgN 2), (tgN 3)]) [2, 3] mYes m_is_month_of_e1 [some (.f (.str m)), some (.f C.d), none, none] = .ok (.l false ((C.ms.map (·.1)).map .str), [some (.f (.str m)), some (.f C.d), none, none]) := by
    rw [← names_map]
    refine mComp_of C.ms monD _ ?_ (tgOk_t (.cons (tgOk_n 2) (.cons (tgOk_n 3) .nil))) (by simp) (by simp) (hz_of (by have := h.m1; omega)) fun x hx => ?_
    · have k3 := cal_ix1 C
      generalize C.d = X at *
      simp [k3]
      rfl
    · exact ⟨[some (.f (.str m)), some (.f C.d), some (.f (.str x.1)), some (.f (.int x.2))], by simp [wipeE, monD], by simp [m_is_month_of_e1]⟩
  have key := imo_s k1 (List.any_eq_true.mpr ⟨m, hm, beq_self_eq_true m⟩) hz
  rw [runD_r, show startE 4 [.f (.str m), .f C.d] = [some (.f (.str m)), some (.f C.d), none, none] from rfl]
  unfold m_is_month_of
  rw [key]
  rfl)
/-! ### dates -/
def dateD (y : Int) (m : Str) (d : Int) : D := .tuple [.int y, .str m, .int d]
noncomputable def S_day_of : Sf := spN 2 5 (m_day_of S_month_span)
theorem sem_day_of : ∀ cs c outs, S_day_of cs = .ok (c, outs) → cs.length = 2 ∧ runD 5 (m_day_of S_month_span) cs = .ok (c, outs) := spN_sem
theorem day_of_r (h : C.Ok) (y : Int) {i : Nat} {m : Str} {d : Int} (k : Int) (hi : (C.mY y)[i]? = some (m, d)) : S_day_of [.f C.d, .f (dateD y m k)] = .ok (.f (.int (C.Ah y + dys ((C.mY y).take i) + k - 1)), []) := spN_r rfl (by
  have k1 := month_span_r h y hi
  generalize C.Ah y + dys ((C.mY y).take i) = u at *
  generalize C.d = X at *
  simp [runD_r, startE, m_day_of, dateD, k1])
noncomputable def S_is_date : Sf := spN 2 5 (m_is_date S_is_month_of S_is_whole S_month_span)
theorem sem_is_date : ∀ cs c outs, S_is_date cs = .ok (c, outs) → cs.length = 2 ∧ runD 5 (m_is_date S_is_month_of S_is_whole S_month_span) cs = .ok (c, outs) := spN_sem
theorem is_date_r (h : C.Ok) (y : Int) {i : Nat} {m : Str} {d : Int} {k : Int} (hi : (C.mY y)[i]? = some (m, d)) (h1 : 1 ≤ k) (h2 : k ≤ d) : S_is_date [.f (dateD y m k), .f C.d] = .ok (.f (.bool true), []) := spN_r rfl (by
  have hm : m ∈ C.ms.map (·.1) := by
    have q : m ∈ (C.mY y).map (·.1) := List.mem_map.mpr ⟨_, List.mem_of_getElem? hi, rfl⟩
    have e : (C.mY y).map (·.1) = C.ms.map (·.1) := by
      unfold Cal.mY
      rw [List.map_map]
      rfl
    rw [← e]
    exact q
  have k1 := month_span_r h y hi
  have k2 := is_month_of_r h hm
  have k3 := whole_in h1 h2
  generalize C.Ah y + dys ((C.mY y).take i) = u at *
  generalize C.d = X at *
  simp [runD_r, startE, m_is_date, dateD, k1, k2, k3])
noncomputable def S_weekday : Sf := spN 2 2 m_weekday
theorem sem_weekday : ∀ cs c outs, S_weekday cs = .ok (c, outs) → cs.length = 2 ∧ runD 2 m_weekday cs = .ok (c, outs) := spN_sem
theorem weekday_r (h : C.Ok) (n : Int) : S_weekday [.f C.d, .f (.int n)] = .ok (.f (.int (n % (C.wk : Int))), []) := spN_r rfl (by
  have k1 := cal_ix4 C
  have k2 := modD_i (i := n) (j := (C.wk : Int)) (by have := h.w0; omega)
  generalize C.d = X at *
  simp [runD_r, startE, m_weekday, k1, k2])
end

/-! ### the year of a day -/
section
variable {C : Cal}
theorem Cal.Ok.Ah_eq (h : C.Ok) (y : Int) : C.Ah y = (((C.b : Int) * C.p + C.a) * y + C.c) / C.b := by
  have := h.b0
  unfold Cal.Ah Cal.L
  rw [show ((C.b : Int) * C.p + C.a) * y + C.c = ((C.a : Int) * y + C.c) + (C.b : Int) * (y * C.p) by rw [Int.add_mul, Int.mul_assoc, Int.mul_comm C.p y]; omega, Int.add_mul_ediv_left _ _ (by omega)]
  omega
def Cal.Y (C : Cal) (n : Int) : Int := ((C.b : Int) * (n + 1) - C.c - 1) / ((C.b : Int) * C.p + C.a)
theorem Cal.Ok.A0 (h : C.Ok) : 0 < (C.b : Int) * C.p + C.a := by
  have h1 := h.b0
  have h2 := h.p1
  have : 0 < (C.b : Int) * C.p := Int.mul_pos (by omega) (by omega)
  omega
theorem Cal.Ok.Y_ok (h : C.Ok) (n : Int) : C.Ah (C.Y n) ≤ n ∧ n < C.Ah (C.Y n + 1) := by
  have hb := h.b0
  have hA := h.A0
  rw [h.Ah_eq, h.Ah_eq]
  unfold Cal.Y
  generalize (C.b : Int) * C.p + C.a = A at *
  have e1 := Int.mul_ediv_add_emod ((C.b : Int) * (n + 1) - C.c - 1) A
  have e2 := Int.emod_nonneg ((C.b : Int) * (n + 1) - C.c - 1) (b := A) (by omega)
  have e3 := Int.emod_lt_of_pos ((C.b : Int) * (n + 1) - C.c - 1) hA
  generalize ((C.b : Int) * (n + 1) - C.c - 1) / A = q at *
  generalize ((C.b : Int) * (n + 1) - C.c - 1) % A = m at *
  constructor
  · have : (A * q + C.c) / (C.b : Int) < n + 1 := Int.ediv_lt_of_lt_mul (by omega) (by rw [Int.mul_comm (n + 1)]; omega)
    omega
  · have : n + 1 ≤ (A * (q + 1) + C.c) / (C.b : Int) := Int.le_ediv_of_mul_le (by omega) (by rw [Int.mul_comm (n + 1), Int.mul_add A]; omega)
    omega
theorem Cal.Ok.Ah_lt (h : C.Ok) (y : Int) : C.Ah y < C.Ah (y + 1) := by
  have h1 := h.p1
  have h2 := h.more01 y
  rw [h.Ah_succ, h.mY_sum]
  omega
theorem Cal.Ok.Ah_mono (h : C.Ok) (y : Int) : ∀ k : Nat, C.Ah y + k ≤ C.Ah (y + k)
  | 0 => by simp
  | k + 1 => by
    have h1 := h.Ah_mono y k
    have h2 := h.Ah_lt (y + k)
    rw [show y + ((k + 1 : Nat) : Int) = y + k + 1 by omega]
    omega
/-- a year not past it -/
theorem Cal.Ok.Y_ge (h : C.Ok) {n y : Int} (hy : C.Ah y ≤ n) : y ≤ C.Y n := by
  rcases Int.lt_or_le (C.Y n) y with z | z
  · exfalso
    obtain ⟨k, hk⟩ := Int.eq_ofNat_of_zero_le (show 0 ≤ y - (C.Y n + 1) by omega)
    have h1 := h.Ah_mono (C.Y n + 1) k
    rw [← hk, show C.Y n + 1 + (y - (C.Y n + 1)) = y by omega] at h1
    have := (h.Y_ok n).2
    omega
  · exact z
theorem Cal.Ok.Y_gt (h : C.Ok) {n y : Int} (hy : n < C.Ah (y + 1)) : C.Y n ≤ y := by
  rcases Int.lt_or_le y (C.Y n) with z | z
  · exfalso
    obtain ⟨k, hk⟩ := Int.eq_ofNat_of_zero_le (show 0 ≤ C.Y n - (y + 1) by omega)
    have h1 := h.Ah_mono (y + 1) k
    rw [← hk, show y + 1 + (C.Y n - (y + 1)) = C.Y n by omega] at h1
    have := (h.Y_ok n).1
    omega
  · exact z
def dateF : List Mo → Int → Option (Str × Int)
  | [], _ => none
  | (n, d) :: r, rest => if rest < d then some (n, rest + 1) else dateF r (rest - d)
theorem dateF_at : ∀ (ms : List Mo) (rest : Int), 0 ≤ rest → rest < dys ms → ∃ i m d k, ms[i]? = some (m, d) ∧ dateF ms rest = some (m, k) ∧ 1 ≤ k ∧ k ≤ d ∧ dys (ms.take i) + k - 1 = rest
  | [], rest, h1, h2 => by simp [dys] at h2; omega
  | (n, d) :: ms, rest, h1, h2 => by
    by_cases q : rest < d
    · exact ⟨0, n, d, rest + 1, rfl, by simp [dateF, q], by omega, by omega, by simp [dys]⟩
    · have h3 : rest - d < dys ms := by
        simp only [dys, List.map_cons, List.sum_cons] at *
        omega
      obtain ⟨i, m, e, k, g1, g2, g3, g4, g5⟩ := dateF_at ms (rest - d) (by omega) h3
      refine ⟨i + 1, m, e, k, by rw [List.getElem?_cons_succ]; exact g1, by simp [dateF, q, g2], g3, g4, ?_⟩
      simp only [dys, List.take_succ_cons, List.map_cons, List.sum_cons] at *
      omega
/-! ### date_of -/
theorem dt_loop {X n a b c y : D} : ∀ (ms : List Mo) (rest : Int) (c7 c8 : Option D) (m : Str) (k : Int), dateF ms rest = some (m, k) → ∃ e', loopL (tgT [(tgN 7), (tgN 8)]) m_date_of_b1 (ms.map monD) [some (.f X), some (.f n), some (.f a), some (.f b), some (.f c), some (.f y), some (.f (.int rest)), c7.map .f, c8.map .f] = .rt (.f (.tuple [y, .str m, .int k])) e'
  | [], rest, c7, c8, m, k, h => by cases h
  | (nm, d) :: ms, rest, c7, c8, m, k, h => by
    have t : tgT [(tgN 7), (tgN 8)] (monD (nm, d)) [some (.f X), some (.f n), some (.f a), some (.f b), some (.f c), some (.f y), some (.f (.int rest)), c7.map .f, c8.map .f] = .ok [some (.f X), some (.f n), some (.f a), some (.f b), some (.f c), some (.f y), some (.f (.int rest)), some (.f (.str nm)), some (.f (.int d))] := by
      cases c7 <;> cases c8 <;> simp [monD]
    unfold dateF at h
    by_cases q : rest < d
    · rw [if_pos q] at h
      cases h
      exact ⟨[some (.f X), some (.f n), some (.f a), some (.f b), some (.f c), some (.f y), some (.f (.int rest)), some (.f (.str nm)), some (.f (.int d))], loop_rt t (by simp [m_date_of_b1, q])⟩
    · rw [if_neg q] at h
      obtain ⟨e', g⟩ := dt_loop (X := X) (n := n) (a := a) (b := b) (c := c) (y := y) ms (rest - d) (some (.str nm)) (some (.int d)) m k h
      exact ⟨e', (loop_nx t (by simp [m_date_of_b1, q])).trans g⟩
noncomputable def S_date_of : Sf := spN 2 9 (m_date_of S_plain_days S_days_ahead S_months_in)
theorem sem_date_of : ∀ cs c outs, S_date_of cs = .ok (c, outs) → cs.length = 2 ∧ runD 9 (m_date_of S_plain_days S_days_ahead S_months_in) cs = .ok (c, outs) := spN_sem
theorem date_of_r (h : C.Ok) {n : Int} {m : Str} {k : Int} (hf : dateF (C.mY (C.Y n)) (n - C.Ah (C.Y n)) = some (m, k)) : S_date_of [.f C.d, .f (.int n)] = .ok (.f (dateD (C.Y n) m k), []) := spN_r rfl (by
  have k1 := plain_days_r h
  have k2 := days_ahead_r h (C.Y n)
  have k3 := months_in_r h (C.Y n)
  have k4 := cal_ix3 C
  have hb := h.b0
  have hb1 := h.b1
  have hp1 := h.p1
  have hp2 := h.p2
  have hA := h.A0
  have w1 : MulOk (C.b : Int) (n + 1) := mulOk_l (by omega) (by omega)
  have w2 : MulOk (C.b : Int) C.p := mulOk_l (by omega) (by omega)
  have hA2 : (C.b : Int) * C.p + C.a < 2 ^ 64 := by
    have := Int.mul_le_mul_of_nonneg_right (a := (C.b : Int)) (b := 500) (c := C.p) (by omega) (by omega)
    have := h.ab
    omega
  have dv := fdivD_i (i := (C.b : Int) * (n + 1) - C.c - 1) (divS hA hA2)
  obtain ⟨e', g⟩ := dt_loop (X := C.d) (n := .int n) (a := .int (C.a : Int)) (b := .int (C.b : Int)) (c := .int (C.c : Int)) (y := .int (C.Y n)) (C.mY (C.Y n)) (n - C.Ah (C.Y n)) none none m k hf
  have s1 : (sTgt (tgT [(tgN 2), (tgN 3), (tgN 4)]) (mZ (m2 ixD (mH (mN (mVar 0))) (mH (mN (mC (.int 3))))))) [some (.f C.d), some (.f (.int n)), none, none, none, none, none, none, none] = .nx [some (.f C.d), some (.f (.int n)), some (.f (.int (C.a : Int))), some (.f (.int (C.b : Int))), some (.f (.int (C.c : Int))), none, none, none, none] := by
    generalize C.d = X at *
    simp [k4]
  have s2 : sAsgF 5 (mZ (m2 fdivD (mH (m2 subD (mH (m2 subD (mH (m2 mulD (mH (mN (mVar 3))) (mH (m2 addD (mH (mN (mVar 1))) (mH (mN (mC (.int 1)))))))) (mH (mN (mVar 4))))) (mH (mN (mC (.int 1)))))) (mH (m2 addD (mH (m2 mulD (mH (mN (mVar 3))) (mH (mCall S_plain_days (aCons (aD (mVar 0)) aNil))))) (mH (mN (mVar 2))))))) [some (.f C.d), some (.f (.int n)), some (.f (.int (C.a : Int))), some (.f (.int (C.b : Int))), some (.f (.int (C.c : Int))), none, none, none, none] = .nx [some (.f C.d), some (.f (.int n)), some (.f (.int (C.a : Int))), some (.f (.int (C.b : Int))), some (.f (.int (C.c : Int))), some (.f (.int (C.Y n))), none, none, none] := by
    unfold Cal.Y
    generalize C.d = X at *
    simp [k1, mulD_i w1, mulD_i w2, dv]
  have s3 : sAsgF 6 (mZ (m2 subD (mH (mN (mVar 1))) (mH (mCall S_days_ahead (aCons (aD (mVar 0)) (aCons (aD (mVar 5)) aNil)))))) [some (.f C.d), some (.f (.int n)), some (.f (.int (C.a : Int))), some (.f (.int (C.b : Int))), some (.f (.int (C.c : Int))), some (.f (.int (C.Y n))), none, none, none] = .nx [some (.f C.d), some (.f (.int n)), some (.f (.int (C.a : Int))), some (.f (.int (C.b : Int))), some (.f (.int (C.c : Int))), some (.f (.int (C.Y n))), some (.f (.int (n - C.Ah (C.Y n)))), none, none] := by
    generalize C.d = X at *
    simp [k2]
  have s4 : mSeqA (mZ (mCall S_months_in (aCons (aD (mVar 0)) (aCons (aD (mVar 5)) aNil)))) [some (.f C.d), some (.f (.int n)), some (.f (.int (C.a : Int))), some (.f (.int (C.b : Int))), some (.f (.int (C.c : Int))), some (.f (.int (C.Y n))), some (.f (.int (n - C.Ah (C.Y n)))), none, none] = .ok ((C.mY (C.Y n)).map monD, [some (.f C.d), some (.f (.int n)), some (.f (.int (C.a : Int))), some (.f (.int (C.b : Int))), some (.f (.int (C.c : Int))), some (.f (.int (C.Y n))), some (.f (.int (n - C.Ah (C.Y n)))), none, none]) := by
    generalize C.d = X at *
    simp [k3]
    rfl
  have key : m_date_of S_plain_days S_days_ahead S_months_in [some (.f C.d), some (.f (.int n)), none, none, none, none, none, none, none] = .rt (.f (dateD (C.Y n) m k)) e' := by
    unfold m_date_of
    rw [seq_nx s1, seq_nx s2, seq_nx s3, seq_rt ((for_rD s4).trans g)]
    rfl
  rw [runD_r, show startE 9 [.f C.d, .f (.int n)] = [some (.f C.d), some (.f (.int n)), none, none, none, none, none, none, none] from rfl, key]
  rfl)
/-! ### the law's own -/
end

section
variable {C : Cal}
theorem Cal.Ok.L_up (h : C.Ok) {y : Int} (hy : 0 ≤ y) : 0 ≤ C.L y ∧ C.L y ≤ y := by
  have hb := h.b0
  have ab := h.ab
  have cb := h.cb
  have h1 : (C.a : Int) * y ≤ C.b * y := Int.mul_le_mul_of_nonneg_right (by omega) hy
  have h2 : 0 ≤ (C.a : Int) * y := Int.mul_nonneg (by omega) hy
  unfold Cal.L
  refine ⟨Int.ediv_nonneg (by omega) (by omega), ?_⟩
  have : ((C.a : Int) * y + C.c) / (C.b : Int) < y + 1 := Int.ediv_lt_of_lt_mul (by omega) (by rw [Int.mul_comm (y + 1), Int.mul_add]; omega)
  omega
theorem Cal.Ok.L_dn (h : C.Ok) {y : Int} (hy : y ≤ 0) : y ≤ C.L y ∧ C.L y ≤ 0 := by
  have hb := h.b0
  have ab := h.ab
  have cb := h.cb
  have h1 : (C.b : Int) * y ≤ C.a * y := Int.mul_le_mul_of_nonpos_right (by omega) hy
  have h2 : (C.a : Int) * y ≤ 0 := Int.mul_nonpos_of_nonneg_of_nonpos (by omega) hy
  unfold Cal.L
  refine ⟨Int.le_ediv_of_mul_le (by omega) (by rw [Int.mul_comm y]; omega), ?_⟩
  have : ((C.a : Int) * y + C.c) / (C.b : Int) < 1 := Int.ediv_lt_of_lt_mul (by omega) (by omega)
  omega
/-- what is told of a day -/
theorem day_all (h : C.Ok) (n : Int) : ∃ (i : Nat) (m : Str) (d k : Int), (C.mY (C.Y n))[i]? = some (m, d) ∧ dateF (C.mY (C.Y n)) (n - C.Ah (C.Y n)) = some (m, k) ∧ 1 ≤ k ∧ k ≤ d ∧ C.Ah (C.Y n) + dys ((C.mY (C.Y n)).take i) + k - 1 = n := by
  have yk := h.Y_ok n
  have hs := h.Ah_succ (C.Y n)
  obtain ⟨i, m, d, k, g1, g2, g3, g4, g5⟩ := dateF_at (C.mY (C.Y n)) (n - C.Ah (C.Y n)) (by omega) (by omega)
  exact ⟨i, m, d, k, g1, g2, g3, g4, by omega⟩
end

section
variable {C : Cal}
/-! ### the round of days -/
def Cal.G (C : Cal) : Nat := Nat.gcd C.a C.b
def Cal.yr (C : Cal) : Int := (C.b : Int) / (C.G : Int)
def Cal.dy (C : Cal) : Int := C.yr * C.p + (C.a : Int) / (C.G : Int)
def Cal.H (C : Cal) : Nat := Nat.gcd C.dy.natAbs C.wk
def Cal.tm (C : Cal) : Int := (C.wk : Int) / (C.H : Int)
def Cal.ry (C : Cal) : Int := C.yr * C.tm
def Cal.rd (C : Cal) : Int := C.dy * C.tm
structure Rnd (C : Cal) : Prop where
  g0 : 0 < C.G
  g1 : C.G ≤ 500
  eb : C.yr * C.G = C.b
  ea : (C.a : Int) / (C.G : Int) * C.G = C.a
  y0 : 0 < C.yr
  y1 : C.yr ≤ 500
  h0 : 0 < C.H
  h1 : C.H ≤ 30
  et : C.tm * C.H = C.wk
  t0 : 0 < C.tm
  t1 : C.tm ≤ 30
  ed : ∃ q : Int, C.dy = C.H * q
theorem ediv_dvd {x g : Nat} (h : g ∣ x) : (x : Int) / (g : Int) * (g : Int) = x := by
  have := Nat.div_mul_cancel h
  rw [← Int.natCast_ediv, ← Int.natCast_mul, this]
theorem pos_of_mul {x g : Int} (h : 0 < x * g) (hg : 0 < g) : 0 < x := by
  rcases Int.lt_or_le 0 x with z | z
  · exact z
  · have := Int.mul_nonpos_of_nonpos_of_nonneg z (Int.le_of_lt hg)
    omega
theorem le_of_mul {x g : Int} (hx : 0 < x) (hg : 0 < g) : x ≤ x * g := by
  have := Int.mul_le_mul_of_nonneg_left (a := 1) (b := g) (c := x) (by omega) (by omega)
  omega
theorem Cal.Ok.rnd (h : C.Ok) : Rnd C := by
  have hb := h.b0
  have hb1 := h.b1
  have hw := h.w0
  have hw1 := h.w1
  have g0 : 0 < C.G := Nat.gcd_pos_of_pos_right _ hb
  have g1 : C.G ≤ C.b := Nat.gcd_le_right _ hb
  have eb : C.yr * C.G = C.b := ediv_dvd (Nat.gcd_dvd_right _ _)
  have ea : (C.a : Int) / (C.G : Int) * C.G = C.a := ediv_dvd (Nat.gcd_dvd_left _ _)
  have y0 : 0 < C.yr := pos_of_mul (g := C.G) (by rw [eb]; omega) (by omega)
  have y1 := le_of_mul y0 (show (0 : Int) < C.G by omega)
  have h0 : 0 < C.H := Nat.gcd_pos_of_pos_right _ hw
  have h1 : C.H ≤ C.wk := Nat.gcd_le_right _ hw
  have et : C.tm * C.H = C.wk := ediv_dvd (Nat.gcd_dvd_right _ _)
  have t0 : 0 < C.tm := pos_of_mul (g := C.H) (by rw [et]; omega) (by omega)
  have t1 := le_of_mul t0 (show (0 : Int) < C.H by omega)
  refine ⟨g0, by omega, eb, ea, y0, by omega, h0, by omega, et, t0, by omega, ?_⟩
  have : (C.H : Int) ∣ C.dy := by
    exact Int.dvd_natAbs.mp (Int.natCast_dvd_natCast.mpr (Nat.gcd_dvd_left _ _))
  obtain ⟨q, hq⟩ := this
  exact ⟨q, hq⟩
theorem Cal.Ok.ry_pos (h : C.Ok) : 0 < C.ry := Int.mul_pos h.rnd.y0 h.rnd.t0
theorem Cal.Ok.ry_le (h : C.Ok) : C.ry ≤ 15000 := by
  have R := h.rnd
  have := R.y0
  have h1 : C.yr * C.tm ≤ C.yr * 30 := Int.mul_le_mul_of_nonneg_left R.t1 (by omega)
  have := R.y1
  unfold Cal.ry
  omega
theorem Cal.Ok.rd_eq (h : C.Ok) : C.rd = C.Ah C.ry - C.Ah 0 := by
  have R := h.rnd
  have hb := h.b0
  have e1 : (C.a : Int) * C.ry = C.b * ((C.a : Int) / (C.G : Int) * C.tm) := by
    have : (C.a : Int) * C.ry = ((C.a : Int) / (C.G : Int) * C.G) * (C.yr * C.tm) := by rw [R.ea]; rfl
    rw [this, ← R.eb]
    simp only [Int.mul_assoc, Int.mul_comm, Int.mul_left_comm]
  unfold Cal.Ah Cal.L
  rw [e1, Int.mul_zero, Int.zero_mul, Int.zero_add, Int.zero_add, Int.add_comm ((C.b : Int) * _), Int.add_mul_ediv_left _ _ (by omega)]
  unfold Cal.rd Cal.dy Cal.ry
  rw [Int.add_mul]
  simp only [Int.mul_assoc, Int.mul_comm, Int.mul_left_comm]
  omega
theorem Cal.Ok.rd_mod (h : C.Ok) : C.rd % (C.wk : Int) = 0 := by
  have R := h.rnd
  obtain ⟨q, hq⟩ := R.ed
  have : C.rd = C.wk * q := by
    unfold Cal.rd
    rw [hq, ← R.et]
    simp only [Int.mul_assoc, Int.mul_comm, Int.mul_left_comm]
  rw [this]
  exact Int.mul_emod_right _ _
theorem Cal.Ok.ar_mod (h : C.Ok) : ((C.a : Int) * C.ry) % (C.b : Int) = 0 := by
  have R := h.rnd
  have e1 : (C.a : Int) * C.ry = C.b * ((C.a : Int) / (C.G : Int) * C.tm) := by
    have : (C.a : Int) * C.ry = ((C.a : Int) / (C.G : Int) * C.G) * (C.yr * C.tm) := by rw [R.ea]; rfl
    rw [this, ← R.eb]
    simp only [Int.mul_assoc, Int.mul_comm, Int.mul_left_comm]
  rw [e1]
  exact Int.mul_emod_right _ _
noncomputable def S_round_of_days : Sf := spN 1 8 (m_round_of_days S_plain_days)
theorem sem_round_of_days : ∀ cs c outs, S_round_of_days cs = .ok (c, outs) → cs.length = 1 ∧ runD 8 (m_round_of_days S_plain_days) cs = .ok (c, outs) := spN_sem
theorem round_r (h : C.Ok) : S_round_of_days [.f C.d] = .ok (.f (.tuple [.int C.ry, .int C.rd]), []) := spN_r rfl (by
  have R := h.rnd
  have k1 := plain_days_r h
  have k3 := cal_ix3 C
  have k4 := cal_ix4 C
  have y0 := R.y0
  have y1 := R.y1
  have t0 := R.t0
  have t1 := R.t1
  have g0 := R.g0
  have g1 := R.g1
  have h0 := R.h0
  have h1 := R.h1
  have w1 := mulD_i (h.mulP C.yr)
  have w2 := mulD_i (show MulOk C.yr C.tm from mulOk_l (by omega) (by omega))
  have w3 := mulD_i (show MulOk C.dy C.tm from mulOk_r' (by omega) (by omega))
  have d1 := fdivD_i (i := (C.b : Int)) (divS (b := (C.G : Int)) (by omega) (by omega))
  have d2 := fdivD_i (i := (C.a : Int)) (divS (b := (C.G : Int)) (by omega) (by omega))
  have d3 := fdivD_i (i := (C.wk : Int)) (divS (b := (C.H : Int)) (by omega) (by omega))
  have q1 : gcdD [.int (C.a : Int), .int (C.b : Int)] = .ok (.f (.int (C.G : Int))) := by
    rw [gcdD_i, Int.natAbs_natCast, Int.natAbs_natCast]
    rfl
  have q2 : gcdD [.int C.dy, .int (C.wk : Int)] = .ok (.f (.int (C.H : Int))) := by
    rw [gcdD_i, Int.natAbs_natCast]
    rfl
  rw [show (C.b : Int) / (C.G : Int) = C.yr from rfl] at d1
  rw [show (C.wk : Int) / (C.H : Int) = C.tm from rfl] at d3
  have q3 : addD (.int (C.yr * C.p)) (.int ((C.a : Int) / (C.G : Int))) = .ok (.f (.int C.dy)) := rfl
  have e1 : C.yr * C.tm = C.ry := rfl
  have e2 : C.dy * C.tm = C.rd := rfl
  rw [e1] at w2
  rw [e2] at w3
  have s1 : (sTgt (tgT [(tgN 1), (tgN 2), (tgN 3)]) (mZ (m2 ixD (mH (mN (mVar 0))) (mH (mN (mC (.int 3))))))) [some (.f C.d), none, none, none, none, none, none, none] = .nx [some (.f C.d), some (.f (.int (C.a : Int))), some (.f (.int (C.b : Int))), some (.f (.int (C.c : Int))), none, none, none, none] := by
    generalize C.d = X at *
    simp [k3]
  have s2 : sAsgF 4 (mZ (mL gcdD (aCons (mH (mN (mVar 1))) (aCons (mH (mN (mVar 2))) aNil)))) [some (.f C.d), some (.f (.int (C.a : Int))), some (.f (.int (C.b : Int))), some (.f (.int (C.c : Int))), none, none, none, none] = .nx [some (.f C.d), some (.f (.int (C.a : Int))), some (.f (.int (C.b : Int))), some (.f (.int (C.c : Int))), some (.f (.int (C.G : Int))), none, none, none] := by
    simp [q1, -gcdD_i]
  have s3 : sAsgF 5 (mZ (m2 fdivD (mH (mN (mVar 2))) (mH (mN (mVar 4))))) [some (.f C.d), some (.f (.int (C.a : Int))), some (.f (.int (C.b : Int))), some (.f (.int (C.c : Int))), some (.f (.int (C.G : Int))), none, none, none] = .nx [some (.f C.d), some (.f (.int (C.a : Int))), some (.f (.int (C.b : Int))), some (.f (.int (C.c : Int))), some (.f (.int (C.G : Int))), some (.f (.int C.yr)), none, none] := by
    simp [d1]
  have s4 : sAsgF 6 (mZ (m2 addD (mH (m2 mulD (mH (mN (mVar 5))) (mH (mCall S_plain_days (aCons (aD (mVar 0)) aNil))))) (mH (m2 fdivD (mH (mN (mVar 1))) (mH (mN (mVar 4))))))) [some (.f C.d), some (.f (.int (C.a : Int))), some (.f (.int (C.b : Int))), some (.f (.int (C.c : Int))), some (.f (.int (C.G : Int))), some (.f (.int C.yr)), none, none] = .nx [some (.f C.d), some (.f (.int (C.a : Int))), some (.f (.int (C.b : Int))), some (.f (.int (C.c : Int))), some (.f (.int (C.G : Int))), some (.f (.int C.yr)), some (.f (.int C.dy)), none] := by
    generalize C.d = X at *
    simp [k1, w1, d2]
    rfl
  have s5 : sAsgF 7 (mZ (m2 fdivD (mH (m2 ixD (mH (mN (mVar 0))) (mH (mN (mC (.int 4)))))) (mH (mL gcdD (aCons (mH (mN (mVar 6))) (aCons (mH (m2 ixD (mH (mN (mVar 0))) (mH (mN (mC (.int 4)))))) aNil)))))) [some (.f C.d), some (.f (.int (C.a : Int))), some (.f (.int (C.b : Int))), some (.f (.int (C.c : Int))), some (.f (.int (C.G : Int))), some (.f (.int C.yr)), some (.f (.int C.dy)), none] = .nx [some (.f C.d), some (.f (.int (C.a : Int))), some (.f (.int (C.b : Int))), some (.f (.int (C.c : Int))), some (.f (.int (C.G : Int))), some (.f (.int C.yr)), some (.f (.int C.dy)), some (.f (.int C.tm))] := by
    generalize C.d = X at *
    simp [k4, q2, d3, -gcdD_i]
  have s6 : sRet (mN (mTup (aCons (mZ (m2 mulD (mH (mN (mVar 5))) (mH (mN (mVar 7))))) (aCons (mZ (m2 mulD (mH (mN (mVar 6))) (mH (mN (mVar 7))))) aNil)))) [some (.f C.d), some (.f (.int (C.a : Int))), some (.f (.int (C.b : Int))), some (.f (.int (C.c : Int))), some (.f (.int (C.G : Int))), some (.f (.int C.yr)), some (.f (.int C.dy)), some (.f (.int C.tm))] = .rt (.f (.tuple [.int C.ry, .int C.rd])) [some (.f C.d), some (.f (.int (C.a : Int))), some (.f (.int (C.b : Int))), some (.f (.int (C.c : Int))), some (.f (.int (C.G : Int))), some (.f (.int C.yr)), some (.f (.int C.dy)), some (.f (.int C.tm))] := by
    simp [w2, w3]
  rw [runD_r, show startE 8 [.f C.d] = [some (.f C.d), none, none, none, none, none, none, none] from rfl]
  unfold m_round_of_days
  rw [seq_nx s1, seq_nx s2, seq_nx s3, seq_nx s4, seq_nx s5, s6]
  rfl)
/-! ### a feast at a date of the year -/
def opD : Option Int → D
  | none => .none
  | some v => .int v
theorem mY_at (C : Cal) {i : Nat} {m : Str} {d0 : Int} (hi : C.ms[i]? = some (m, d0)) (y : Int) : ∃ d, (C.mY y)[i]? = some (m, d) := by
  unfold Cal.mY
  rw [List.getElem?_map, hi]
  exact ⟨_, rfl⟩
end

/-! ### spread -/
def cls (wk : Nat) : Option Int → Nat
  | none => wk
  | some v => (v % (wk : Int)).toNat
def cnt (wk : Nat) (fs : List (Option Int)) (s : Nat) : Nat := fs.countP fun f => cls wk f == s
def cntD (wk : Nat) (fs : List (Option Int)) : List D := (List.range (wk + 1)).map fun s => D.int (cnt wk fs s : Int)
theorem cls_le {wk : Nat} (h : 0 < wk) (f : Option Int) : cls wk f < wk + 1 := by
  cases f with
  | none => exact Nat.lt_succ_self _
  | some v =>
    have h1 := Int.emod_lt_of_pos v (b := (wk : Int)) (by omega)
    have h2 := Int.emod_nonneg v (b := (wk : Int)) (by omega)
    show (v % (wk : Int)).toNat < wk + 1
    omega
theorem cntD_get {wk : Nat} {fs : List (Option Int)} {s : Nat} (h : s < wk + 1) : (cntD wk fs)[s]? = some (.int (cnt wk fs s : Int)) := by
  unfold cntD
  rw [List.getElem?_map, List.getElem?_range h]
  rfl
theorem cntD_len (wk : Nat) (fs : List (Option Int)) : (cntD wk fs).length = wk + 1 := by simp [cntD]
theorem cntD_app {wk : Nat} {fs : List (Option Int)} {f : Option Int} : (cntD wk fs).set (cls wk f) (.int ((cnt wk fs (cls wk f) : Int) + 1)) = cntD wk (fs ++ [f]) := by
  apply List.ext_getElem?
  intro s
  rcases Nat.lt_or_ge s (wk + 1) with z | z
  · rw [cntD_get z]
    by_cases q : cls wk f = s
    · subst q
      rw [List.getElem?_set_self (by rw [cntD_len]; exact z)]
      unfold cnt
      rw [List.countP_append]
      simp
    · rw [List.getElem?_set_ne q, cntD_get z]
      unfold cnt
      rw [List.countP_append]
      have : (cls wk f == s) = false := beq_eq_false_iff_ne.mpr q
      simp [this]
  · rw [List.getElem?_eq_none (by rw [List.length_set, cntD_len]; exact z), List.getElem?_eq_none (by rw [cntD_len]; exact z)]
section
variable {C : Cal}
def eSp (X F : D) (wk : Nat) (ds : List D) (c4 : Option D) : En := [some (.f X), some (.f F), some (.f (.int (wk : Int))), some (.l false ds), c4.map .f]
theorem sp_step {X F : D} {wk : Nat} (hw : 0 < wk) {fs : List (Option Int)} {f : Option Int} : m_spread_b1 (eSp X F wk (cntD wk fs) (some (opD f))) = .nx (eSp X F wk (cntD wk (fs ++ [f])) (some (opD f))) := by
  have hl := cls_le hw f
  have g := cntD_get (fs := fs) hl
  have hat : atI (cntD wk fs) (cls wk f : Int) = some (.int (cnt wk fs (cls wk f) : Int)) := by
    unfold atI ixN
    rw [if_pos (by omega), if_pos (by rw [cntD_len]; omega)]
    exact g
  have hix : ixN (cntD wk fs).length (cls wk f : Int) = some (cls wk f) := by
    unfold ixN
    rw [if_pos (by omega), if_pos (by rw [cntD_len]; omega)]
    rfl
  have hs := cntD_app (wk := wk) (fs := fs) (f := f)
  have hm : mZ (mIf (mBool (m2 isD (mH (mN (mVar 4))) (mH (mN (mC .none))))) (mN (mVar 2)) (m2 modD (mH (mN (mVar 4))) (mH (mN (mVar 2))))) (eSp X F wk (cntD wk fs) (some (opD f))) = .ok (.int (cls wk f : Int), eSp X F wk (cntD wk fs) (some (opD f))) := by
    generalize cntD wk fs = ds
    cases f with
    | none => simp [eSp, opD, cls]
    | some v =>
      have h1 := Int.emod_nonneg v (b := (wk : Int)) (by omega)
      have e : ((v % (wk : Int)).toNat : Int) = v % (wk : Int) := by omega
      have hd := modD_i (i := v) (j := (wk : Int)) (by omega)
      have hn : isD (.int v) .none = .ok (.f (.bool false)) := rfl
      simp [eSp, opD, cls, hd, hn]
      omega
  unfold m_spread_b1
  rw [sLAug_r]
  rw [← hs]
  generalize hds : cntD wk fs = ds at *
  have e3 : (eSp X F wk ds (some (opD f)))[3]? = some (some (.l false ds)) := rfl
  rw [e3]
  dsimp only
  rw [hm]
  simp only [onR_ok]
  rw [e3]
  simp only [hat]
  simp [iaddD, e3, hix]
  rfl
theorem sp_loop2 {X F : D} {wk : Nat} (hw : 0 < wk) (fs : List (Option Int)) : ∃ c4, loopL (tgN 4) m_spread_b1 (fs.map opD) (eSp X F wk (cntD wk []) none) = .nx (eSp X F wk (cntD wk fs) c4) := by
  obtain ⟨e', g1, ⟨c4, g2⟩, _⟩ := loopL_fold (t := tgN 4) (b := m_spread_b1) opD (fun (pre : List (Option Int)) e => ∃ c4, e = eSp X F wk (cntD wk pre) c4) (fun pre f => pre ++ [f]) (fun _ _ => True) (fun f r pre e _ ⟨c4, he⟩ => ⟨eSp X F wk (cntD wk pre) (some (opD f)), _, by rw [he]; exact tgN_f (a := c4) rfl, sp_step hw, ⟨_, rfl⟩, trivial⟩) fs [] (eSp X F wk (cntD wk []) none) trivial ⟨none, rfl⟩
  have e1 : fs.foldl (fun pre f => pre ++ [f]) [] = fs := by
    have : ∀ (ys xs : List (Option Int)), ys.foldl (fun xs x => xs ++ [x]) xs = xs ++ ys := by
      intro ys
      induction ys with
      | nil => simp
      | cons y ys ih => intro xs; rw [List.foldl_cons, ih]; simp
    rw [this]
    rfl
  rw [e1] at g2
  exact ⟨c4, by rw [← g2]; exact g1⟩
theorem mul_l {ds : List D} {k : Int} (h1 : -(2 ^ 63) ≤ k) (h2 : k < 2 ^ 63) (h3 : ds.length * k.toNat ≤ sizeLine) : mulD (.list ds) (.int k) = .ok (.l false (List.replicate k.toNat ds).flatten) := if_pos ⟨h1, h2, h3⟩
theorem zeros (wk : Nat) (h : wk ≤ 30) : mulD (.list [.int 0]) (.int ((wk : Int) + 1)) = .ok (.l false (cntD wk [])) := by
  have e : (List.replicate ((wk : Int) + 1).toNat [D.int 0]).flatten = cntD wk [] := by
    rw [show ((wk : Int) + 1).toNat = wk + 1 by omega]
    unfold cntD cnt
    have : ∀ n : Nat, (List.replicate n [D.int 0]).flatten = (List.range n).map fun _ => D.int 0 := by
      intro n
      induction n with
      | zero => rfl
      | succ n ih => rw [List.replicate_succ', List.flatten_append, ih, List.range_succ, List.map_append]; rfl
    rw [this]
    simp
  rw [mul_l (by omega) (by omega) (sizeLine_ge _ (by simp; omega)), e]
theorem sp_m {g : D → D → Rs Ce} {X F : D} {wk : Nat} {ds : List D} (hz : g (.list [.int 0]) (.int ((wk : Int) + 1)) = .ok (.l false ds)) : m2 g (mH (mLst (aCons (mC (.int 0)) aNil))) (mH (m2 addD (mH (mN (mVar 2))) (mH (mN (mC (.int 1)))))) [some (.f X), some (.f F), some (.f (.int (wk : Int))), none, none] = .ok (.l false ds, [some (.f X), some (.f F), some (.f (.int (wk : Int))), none, none]) := by
  simp [hz]
theorem sp_s2 {z : M Ce} {X F : D} {wk : Nat} {ds : List D} (hm : z [some (.f X), some (.f F), some (.f (.int (wk : Int))), none, none] = .ok (.l false ds, [some (.f X), some (.f F), some (.f (.int (wk : Int))), none, none])) : sAsg 3 z [some (.f X), some (.f F), some (.f (.int (wk : Int))), none, none] = .nx (eSp X F wk ds none) := by
  simp [hm, eSp]
theorem sp_s3 {X F : D} {wk : Nat} {ds fd : List D} (k1 : S_feast_days [.f X, .f F] = .ok (.l false fd, [])) : mSeqA (mZ (mCall S_feast_days (aCons (aD (mVar 0)) (aCons (aD (mVar 1)) aNil)))) (eSp X F wk ds none) = .ok (fd, eSp X F wk ds none) := by
  simp [k1, eSp]
theorem sp_s4 {X F : D} {wk : Nat} {ds : List D} {c4 : Option D} : sRet (mL tupleD (aCons (mSl 3) aNil)) (eSp X F wk ds c4) = .rt (.f (.tuple ds)) (eSp X F wk ds c4) := by
  simp [eSp]
theorem sp_s1 {X F : D} {wk : Nat} (k4 : ixD X (.int 4) = .ok (.f (.int (wk : Int)))) : sAsgF 2 (mZ (m2 ixD (mH (mN (mVar 0))) (mH (mN (mC (.int 4)))))) [some (.f X), some (.f F), none, none, none] = .nx [some (.f X), some (.f F), some (.f (.int (wk : Int))), none, none] := by
  simp [k4]
theorem sp_all {z1 : M Ce} {X F : D} {wk : Nat} {ds ds0 : List D} {fd : List D} {b : En → Out} {c4 : Option D} (k4 : ixD X (.int 4) = .ok (.f (.int (wk : Int)))) (hz : z1 [some (.f X), some (.f F), some (.f (.int (wk : Int))), none, none] = .ok (.l false ds0, [some (.f X), some (.f F), some (.f (.int (wk : Int))), none, none])) (k1 : S_feast_days [.f X, .f F] = .ok (.l false fd, [])) (g : loopL (tgN 4) b fd (eSp X F wk ds0 none) = .nx (eSp X F wk ds c4)) :
    (sSeq (sAsgF 2 (mZ (m2 ixD (mH (mN (mVar 0))) (mH (mN (mC (.int 4)))))))
    (sSeq (sAsg 3 z1)
    (sSeq (sFor (mSeqA (mZ (mCall S_feast_days (aCons (aD (mVar 0)) (aCons (aD (mVar 1)) aNil))))) (tgN 4) b)
    (sRet (mL tupleD (aCons (mSl 3) aNil)))))) [some (.f X), some (.f F), none, none, none] = .rt (.f (.tuple ds)) (eSp X F wk ds c4) := by
  rw [seq_nx (sp_s1 k4), seq_nx (sp_s2 hz), seq_nx ((for_rD (sp_s3 k1)).trans g), sp_s4]
/-! ### is it a calendar -/
noncomputable def S_is_month : Sf := spN 1 1 (m_is_month S_is_name S_is_whole)
theorem sem_is_month : ∀ cs c outs, S_is_month cs = .ok (c, outs) → cs.length = 1 ∧ runD 1 (m_is_month S_is_name S_is_whole) cs = .ok (c, outs) := spN_sem
theorem is_month_r {x : Mo} (h : nmOk x.1 = true) (h1 : 1 ≤ x.2) (h2 : x.2 ≤ 60) : S_is_month [.f (monD x)] = .ok (.f (.bool true), []) := spN_r rfl (by
  have k1 := is_name_r h
  have k2 := whole_in h1 h2
  simp [runD_r, startE, m_is_month, monD, k1, k2])
noncomputable def S_is_leap_rule : Sf := spN 1 1 (m_is_leap_rule S_is_whole)
theorem sem_is_leap_rule : ∀ cs c outs, S_is_leap_rule cs = .ok (c, outs) → cs.length = 1 ∧ runD 1 (m_is_leap_rule S_is_whole) cs = .ok (c, outs) := spN_sem
theorem is_leap_rule_r (h : C.Ok) : S_is_leap_rule [.f (.tuple [.int (C.a : Int), .int (C.b : Int), .int (C.c : Int)])] = .ok (.f (.bool true), []) := spN_r rfl (by
  have b0 := h.b0
  have b1 := h.b1
  have ab := h.ab
  have cb := h.cb
  have k1 := whole_in (i := (C.b : Int)) (lo := 1) (hi := 500) (by omega) (by omega)
  have k2 := whole_in (i := (C.a : Int)) (lo := 0) (hi := (C.b : Int)) (by omega) (by omega)
  have k3 := whole_in (i := (C.c : Int)) (lo := 0) (hi := (C.b : Int) - 1) (by omega) (by omega)
  simp [runD_r, startE, m_is_leap_rule, k1, k2, k3])
noncomputable def S_is_calendar : Sf := spN 1 8 (m_is_calendar S_is_month S_is_name S_is_leap_rule S_is_whole)
theorem sem_is_calendar : ∀ cs c outs, S_is_calendar cs = .ok (c, outs) → cs.length = 1 ∧ runD 8 (m_is_calendar S_is_month S_is_name S_is_leap_rule S_is_whole) cs = .ok (c, outs) := spN_sem
theorem texts_some (ns : List Str) : textsOf (ns.map .str) = some ns := by
  induction ns with
  | nil => rfl
  | cons y ys ih => show (textsOf (ys.map .str)).map _ = _; rw [ih]; rfl
theorem lenSet_nodup {ns : List Str} (h : ns.Nodup) (hl : ns.length ≤ 1000) : lenSetD (.list (ns.map .str)) = .ok (.f (.int (ns.length : Int))) := by
  simp only [lenSetD, texts_some]
  rw [if_pos hl, dkn_nodup h _ (Nat.le_refl _)]
def eK (X ms lg lp wk : D) (c6 : Option D) : En := [some (.f X), some (.f (.str "calendar")), some (.f ms), some (.f lg), some (.f lp), some (.f wk), c6.map .f, none]
theorem s_cal : neD (.str "calendar") (.str "calendar") = .ok (.f (.bool false)) := by
  have : D.eqb (.str "calendar") (.str "calendar") = true := by
    rw [D.eqb]
    exact beq_self_eq_true _
  unfold neD
  rw [this]
  rfl
theorem ic_3 {z : M Ce} {e : En} {bs : List Bool} {lg : D} (hz : z e = .ok (.l false (bs.map .bool), e)) (hb : bs.all id = true) (h3 : e[3]? = some (some (.f lg))) (hn : S_is_name [.f lg] = .ok (.f (.bool true), [])) : sIf (mOr (mNot (mTru (mH (mL allD (aCons (mH z) aNil))))) (mNot (mTru (mH (mCall S_is_name (aCons (aD (mVar 3)) aNil)))))) (sRet (mN (mC (.bool false)))) sNext e = .nx e := by
  have := allD_l bs
  rw [hb] at this
  generalize bs.map D.bool = bd at *
  simp [hz, this, h3, hn]
theorem is_calendar_r (h : C.Ok) : S_is_calendar [.f C.d] = .ok (.f (.bool true), []) := spN_r rfl (by
  have m0 := h.m0
  have m1' := h.m1
  have hlg : nmOk C.lg = true := by
    obtain ⟨x, hx, e⟩ := List.mem_map.mp h.lg
    rw [← e]
    exact h.nm x hx
  have kn := is_name_r hlg
  have kl := is_leap_rule_r h
  have kw := whole_in (i := (C.wk : Int)) (lo := 1) (hi := 30) (by have := h.w0; omega) (by have := h.w1; omega)
  have q1 : (1 : Int) ≤ (C.ms.length : Int) := by omega
  have q2 : (C.ms.length : Int) ≤ 20 := by omega
  have hml : (msD C.ms).length = C.ms.length := by simp [msD]
  have c0 := s_cal
  have s1 : (sIf (mOr (mNot (mTru (mH (mN (mIs "tuple" (mH (mN (mVar 0)))))))) (mOr (mBool (m2 neD (mH (mL lenD (aCons (mH (mN (mVar 0))) aNil))) (mH (mN (mC (.int 5)))))) (mBool (m2 neD (mH (m2 ixD (mH (mN (mVar 0))) (mH (mN (mC (.int 0)))))) (mH (mN (mC (.str "calendar")))))))) (sRet (mN (mC (.bool false)))) sNext) [some (.f C.d), none, none, none, none, none, none, none] = .nx [some (.f C.d), none, none, none, none, none, none, none] := by
    have hd : lenD [C.d] = .ok (.f (.int 5)) := rfl
    have ht : isT "tuple" C.d = true := rfl
    have h0 := cal_ix0 C
    generalize C.d = X at *
    simp [hd, ht, h0, c0]
  have s2 : sTgt (tgT [(tgN 1), (tgN 2), (tgN 3), (tgN 4), (tgN 5)]) (mVar 0) [some (.f C.d), none, none, none, none, none, none, none] = .nx (eK C.d (.tuple (msD C.ms)) (.str C.lg) (.tuple [.int (C.a : Int), .int (C.b : Int), .int (C.c : Int)]) (.int (C.wk : Int)) none) := by
    unfold Cal.d
    generalize msD C.ms = md
    simp [eK]
  have s3 : (sIf (mOr (mNot (mTru (mH (mN (mIs "tuple" (mH (mN (mVar 2)))))))) (mNot (mBool (mChain leD leD (mH (mN (mC (.int 1)))) (mH (mL lenD (aCons (mH (mN (mVar 2))) aNil))) (mH (mN (mC (.int 20)))))))) (sRet (mN (mC (.bool false)))) sNext) (eK C.d (.tuple (msD C.ms)) (.str C.lg) (.tuple [.int (C.a : Int), .int (C.b : Int), .int (C.c : Int)]) (.int (C.wk : Int)) none) = .nx (eK C.d (.tuple (msD C.ms)) (.str C.lg) (.tuple [.int (C.a : Int), .int (C.b : Int), .int (C.c : Int)]) (.int (C.wk : Int)) none) := by
    have hd : lenD [.tuple (msD C.ms)] = .ok (.f (.int (C.ms.length : Int))) := by
      rw [← hml]
      rfl
    have ht : isT "tuple" (.tuple (msD C.ms)) = true := rfl
    generalize msD C.ms = md at *
    generalize C.d = X at *
    generalize C.ms.length = n at *
    simp [eK, hd, q1, q2]
  have it : mSeqA (mVar 2) (eK C.d (.tuple (msD C.ms)) (.str C.lg) (.tuple [.int (C.a : Int), .int (C.b : Int), .int (C.c : Int)]) (.int (C.wk : Int)) none) = .ok (C.ms.map monD, eK C.d (.tuple (msD C.ms)) (.str C.lg) (.tuple [.int (C.a : Int), .int (C.b : Int), .int (C.c : Int)]) (.int (C.wk : Int)) none) := by
    generalize C.d = X
    simp [eK]
    rfl
  have hz1 : mComp (mSeqA (mVar 2)) (tgN 7) [7] mYes (m_is_calendar_e1 S_is_month) (eK C.d (.tuple (msD C.ms)) (.str C.lg) (.tuple [.int (C.a : Int), .int (C.b : Int), .int (C.c : Int)]) (.int (C.wk : Int)) none) = .ok (.l false ((C.ms.map fun _ => true).map .bool), eK C.d (.tuple (msD C.ms)) (.str C.lg) (.tuple [.int (C.a : Int), .int (C.b : Int), .int (C.c : Int)]) (.int (C.wk : Int)) none) := by
    rw [List.map_map]
    refine mComp_of C.ms monD _ it (tgOk_n 7) (by simp) (by simp [eK]) (hz_of (by omega)) fun x hx => ?_
    have k := is_month_r (h.nm x hx) (h.d0 x hx) (h.d1 x hx)
    refine ⟨[some (.f C.d), some (.f (.str "calendar")), some (.f (.tuple (msD C.ms))), some (.f (.str C.lg)), some (.f (.tuple [.int (C.a : Int), .int (C.b : Int), .int (C.c : Int)])), some (.f (.int (C.wk : Int))), none, some (.f (monD x))], by simp [wipeE, eK], ?_⟩
    generalize C.d = X at *
    simp [m_is_calendar_e1, k]
  have s4 := ic_3 (lg := .str C.lg) hz1 (by rw [List.all_eq_true]; intro b hb; obtain ⟨_, _, rfl⟩ := List.mem_map.mp hb; rfl) rfl kn
  have hz2 : mComp (mSeqA (mVar 2)) (tgN 7) [7] mYes m_is_calendar_e2 (eK C.d (.tuple (msD C.ms)) (.str C.lg) (.tuple [.int (C.a : Int), .int (C.b : Int), .int (C.c : Int)]) (.int (C.wk : Int)) none) = .ok (.l false ((C.ms.map (·.1)).map .str), eK C.d (.tuple (msD C.ms)) (.str C.lg) (.tuple [.int (C.a : Int), .int (C.b : Int), .int (C.c : Int)]) (.int (C.wk : Int)) none) := by
    rw [← names_map]
    refine mComp_of C.ms monD _ it (tgOk_n 7) (by simp) (by simp [eK]) (hz_of (by omega)) fun x hx => ?_
    refine ⟨[some (.f C.d), some (.f (.str "calendar")), some (.f (.tuple (msD C.ms))), some (.f (.str C.lg)), some (.f (.tuple [.int (C.a : Int), .int (C.b : Int), .int (C.c : Int)])), some (.f (.int (C.wk : Int))), none, some (.f (monD x))], by simp [wipeE, eK], ?_⟩
    generalize C.d = X at *
    simp [m_is_calendar_e2, monD]
  have s5 : ∀ {z : M Ce}, z (eK C.d (.tuple (msD C.ms)) (.str C.lg) (.tuple [.int (C.a : Int), .int (C.b : Int), .int (C.c : Int)]) (.int (C.wk : Int)) none) = .ok (.l false ((C.ms.map (·.1)).map .str), eK C.d (.tuple (msD C.ms)) (.str C.lg) (.tuple [.int (C.a : Int), .int (C.b : Int), .int (C.c : Int)]) (.int (C.wk : Int)) none) → sAsgF 6 (mZ z) (eK C.d (.tuple (msD C.ms)) (.str C.lg) (.tuple [.int (C.a : Int), .int (C.b : Int), .int (C.c : Int)]) (.int (C.wk : Int)) none) = .nx (eK C.d (.tuple (msD C.ms)) (.str C.lg) (.tuple [.int (C.a : Int), .int (C.b : Int), .int (C.c : Int)]) (.int (C.wk : Int)) (some (.list ((C.ms.map (·.1)).map .str)))) := fun {z} hz => by
    generalize (C.ms.map (·.1)).map D.str = nd at *
    generalize C.d = X at *
    simp [hz, eK]
    simp [eK] at hz
    simp [hz]
  have s6 : ∃ e', sRet (mAndV (m2 eqD (mH (mLenSet (mVar 6))) (mH (mL lenD (aCons (mH (mN (mVar 6))) aNil)))) (mAndV (m2 inD (mH (mN (mVar 3))) (mH (mN (mVar 6)))) (mAndV (mCall S_is_leap_rule (aCons (aD (mVar 4)) aNil)) (mCall S_is_whole (aCons (aD (mVar 5)) (aCons (aD (mC (.int 1))) (aCons (aD (mC (.int 30))) aNil))))))) (eK C.d (.tuple (msD C.ms)) (.str C.lg) (.tuple [.int (C.a : Int), .int (C.b : Int), .int (C.c : Int)]) (.int (C.wk : Int)) (some (.list ((C.ms.map (·.1)).map .str)))) = .rt (.f (.bool true)) e' := by
    have hs := lenSet_nodup h.nd (by simp; omega)
    have hl : lenD [.list ((C.ms.map (·.1)).map .str)] = .ok (.f (.int ((C.ms.map (·.1)).length : Int))) := by
      show Rs.ok (Ce.f (.int (((C.ms.map (·.1)).map D.str).length : Int))) = _
      rw [List.length_map]
    have hin := inD_l C.lg (C.ms.map (·.1))
    rw [show ((C.ms.map (·.1)).any fun y => y == C.lg) = true from List.any_eq_true.mpr ⟨C.lg, h.lg, beq_self_eq_true _⟩] at hin
    generalize (C.ms.map (·.1)).map D.str = nd at *
    generalize (C.ms.map (·.1)).length = nl at *
    generalize C.d = X at *
    exact ⟨eK X (.tuple (msD C.ms)) (.str C.lg) (.tuple [.int (C.a : Int), .int (C.b : Int), .int (C.c : Int)]) (.int (C.wk : Int)) (some (.list nd)), by simp [eK, hs, hl, hin, kl, kw]⟩
  obtain ⟨e', s6⟩ := s6
  rw [runD_r, show startE 8 [.f C.d] = [some (.f C.d), none, none, none, none, none, none, none] from rfl]
  unfold m_is_calendar
  rw [seq_nx s1, seq_nx s2, seq_nx s3, seq_nx s4, seq_nx (s5 hz2), s6]
  rfl)
end

/-! ### ratios of the law -/
/-! ### fitted -/
noncomputable def S_fitted : Sf := spN 3 10 (m_fitted S_minus S_plain_days S_compare ShN.S_nearest)
theorem sem_fitted : ∀ cs c outs, S_fitted cs = .ok (c, outs) → cs.length = 3 ∧ runD 10 (m_fitted S_minus S_plain_days S_compare ShN.S_nearest) cs = .ok (c, outs) := spN_sem
theorem redI_co {P Q : Nat} (h : Nat.gcd P Q = 1) : redI (P : Int) (Q : Int) = ((P : Int), (Q : Int)) := by
  unfold redI
  rw [Int.gcd_natCast_natCast, h]
  simp
theorem redI_int {A : Int} {Q : Nat} (h : Int.gcd A Q = 1) : redI A (Q : Int) = (A, (Q : Int)) := by
  unfold redI
  rw [h]
  simp
structure Part (P Q : Nat) : Prop where
  co : Nat.gcd P Q = 1
  q0 : 0 < Q
  q1 : Q < 1000
  pq : P ≤ Q
section
variable {C : Cal} {P Q : Nat}
theorem bgN {n : Nat} (h : n < 2 ^ 60) : Bg (n : Int) := bg_small (by rw [Int.natAbs_natCast]; omega)
theorem bgI {i : Int} (h : -(2 ^ 60) < i) (h2 : i < 2 ^ 60) : Bg i := bg_small (by omega)
/-! ### a pick from a tuple -/
noncomputable def S_pickT : Sf
  | [.l true [.list xs, .int a], .f (.tuple ts)] => if 0 ≤ a ∧ a < 2 ^ 62 ∧ xs.all D.isI = true ∧ 0 < ts.length then .ok (.f ((ts[(dv xs a 900 % (ts.length : Int)).toNat]?).getD .none), [.l true [.list xs, .int (a + 1)]]) else .no
  | _ => .no
theorem pt_fin {xs ts : List D} {a w i : Int} {d : D} (h1 : S_draw [.l true [.list xs, .int a], .f (.int 900)] = .ok (.f (.int w), [.l true [.list xs, .int (a + 1)]])) (h2 : modD (.int w) (.int (ts.length : Int)) = .ok (.f (.int i))) (h3 : ixD (.tuple ts) (.int i) = .ok (.f d)) :
    runD 2 (m_law_pick S_draw) [.l true [.list xs, .int a], .f (.tuple ts)] = .ok (.f d, [.l true [.list xs, .int (a + 1)]]) := by
  simp [runD_r, startE, m_law_pick, h1, h2, h3]
theorem sem_pickT : ∀ cs c outs, S_pickT cs = .ok (c, outs) → cs.length = 2 ∧ runD 2 (m_law_pick S_draw) cs = .ok (c, outs) := by
  intro cs c outs h
  unfold S_pickT at h
  split at h
  · rename_i xs a ts
    obtain ⟨⟨h1, h2, h3, h4⟩, h⟩ := ite_ok h
    cases h
    have d1 := draw_r h3 h1 h2 (m := 900) (by decide) (by decide)
    have hl : (0 : Int) < (ts.length : Int) := by omega
    have i0 := Int.emod_nonneg (dv xs a 900) (show (ts.length : Int) ≠ 0 by omega)
    have i1 := Int.emod_lt_of_pos (dv xs a 900) hl
    have hx : ts[(dv xs a 900 % (ts.length : Int)).toNat]? = some (ts[(dv xs a 900 % (ts.length : Int)).toNat]'(by omega)) := List.getElem?_eq_getElem (by omega)
    rw [hx]
    exact ⟨rfl, pt_fin d1 (modD_i hl) (ixD_tN i0 hx)⟩
  · cases h
theorem pickT_r {xs ts : List D} {a : Int} (hx : xs.all D.isI = true) (h1 : 0 ≤ a) (h2 : a < 2 ^ 62) (hl : 0 < ts.length) : ∃ (k : Nat) (d : D), ts[k]? = some d ∧ S_pickT [.l true [.list xs, .int a], .f (.tuple ts)] = .ok (.f d, [.l true [.list xs, .int (a + 1)]]) := by
  have hS : S_pickT [.l true [.list xs, .int a], .f (.tuple ts)] = .ok (.f ((ts[(dv xs a 900 % (ts.length : Int)).toNat]?).getD .none), [.l true [.list xs, .int (a + 1)]]) := if_pos ⟨h1, h2, hx, hl⟩
  have i0 := Int.emod_nonneg (dv xs a 900) (show (ts.length : Int) ≠ 0 by omega)
  have i1 := Int.emod_lt_of_pos (dv xs a 900) (show (0 : Int) < (ts.length : Int) by omega)
  have hx : ts[(dv xs a 900 % (ts.length : Int)).toNat]? = some (ts[(dv xs a 900 % (ts.length : Int)).toNat]'(by omega)) := List.getElem?_eq_getElem (by omega)
  rw [hx] at hS
  exact ⟨_, _, hx, hS⟩
theorem pick_ms {xs : List D} {a : Int} {ms : List Mo} (hx : xs.all D.isI = true) (h1 : 0 ≤ a) (h2 : a < 1000) (hl : 0 < ms.length) : ∃ (k : Nat) (m : Mo), ms[k]? = some m ∧ S_pickT [.l true [.list xs, .int a], .f (.tuple (msD ms))] = .ok (.f (monD m), [.l true [.list xs, .int (a + 1)]]) := by
  obtain ⟨k, d, q1, q2⟩ := pickT_r (ts := msD ms) hx h1 (by omega) (by simpa [msD] using hl)
  unfold msD at q1
  rw [List.getElem?_map] at q1
  obtain ⟨m, q3, rfl⟩ := Option.map_eq_some_iff.mp q1
  exact ⟨k, m, q3, q2⟩
end
/-! ### the calendar that is drawn -/
theorem dr {xs : List D} (hx : xs.all D.isI = true) {t m : Int} (h0 : 0 ≤ t) (h1 : t < 1000) (hm : 0 < m) (hm2 : m ≤ 1000) : ∃ d : Int, S_draw [.l true [.list xs, .int t], .f (.int m)] = .ok (.f (.int d), [.l true [.list xs, .int (t + 1)]]) ∧ 0 ≤ d ∧ d < m :=
  ⟨_, draw_r hx h0 (by omega) hm (by omega), dv_nn hm, dv_lt hm⟩
theorem drN {xs : List D} (hx : xs.all D.isI = true) {t : Int} {m : Nat} (h0 : 0 ≤ t) (h1 : t < 1000) (hm : 0 < m) (hm2 : m ≤ 1000) : ∃ d : Nat, S_draw [.l true [.list xs, .int t], .f (.int (m : Int))] = .ok (.f (.int (d : Int)), [.l true [.list xs, .int (t + 1)]]) ∧ d < m := by
  obtain ⟨d, h, d0, d1⟩ := dr hx h0 h1 (m := (m : Int)) (by omega) (by omega)
  obtain ⟨n, rfl⟩ := Int.eq_ofNat_of_zero_le d0
  exact ⟨n, h, by omega⟩
end ShC

namespace DL
open PySem L2 PyProof.Rows
/-! ### the module's own tuples -/
def KTup (K : PySem.W.Frag) (mg : Str → Option Value) (x : Str) (vs : List V) : Prop := ∃ a its, mg x = some (.ref a) ∧ K.lookup a = some (gO its) ∧ Vals vs its
section
variable {X : Cx} {pos : Pos} {x : Str} {vs : List V} {ds : List D}
theorem pf_ktup (hg : Gl X x) (h : KTup X.K X.mg x vs) (hd : ∀ F, DnA X.K F vs ds) (hz : vs.length ≤ sizeLine := by rw [sizeLine_eq]; decide) (hdb : (x == ("__debug__" : Str)) = false := by decide) : PF X (.Name x pos) (mC (.tuple ds)) := by
  obtain ⟨a, its, hm, hk, r⟩ := h
  exact pf_c (pe_glob (v := .ref a) hg hm rfl hdb) fun F => .tup (.inr ⟨hk, by rw [← r.length]; exact hz, r⟩) (hd F)
theorem pf_kint {i : Int} (hg : Gl X x) (h : ∃ t, X.mg x = some (.int i t)) (hdb : (x == ("__debug__" : Str)) = false := by decide) : PF X (.Name x pos) (mC (.int i)) := by
  obtain ⟨t, hm⟩ := h
  exact pf_c (pe_glob (v := .int i) hg hm ⟨t, rfl⟩ hdb) fun F => .int i
end
/-! ### divmod -/
def rDivmodG : List V → Hp → VK → Prop := fun xs H Q => ∃ i j, xs = [.int i, .int j] ∧ CDivP i j ∧ ∀ p its, H p = none → Q (.ref p) (upd H p (.frz (gO its) (.tup [.int (i / j), .int (i % j)])))
theorem call_divmodG {X : Cx} : CallR X (.builtin "divmod") rDivmodG := by
  intro pins s σ H xs us Q I r h
  obtain ⟨i, j, rfl, ⟨h1, h2⟩, q⟩ := h
  obtain ⟨u, w', rfl, ⟨t, rfl⟩, ⟨t', rfl⟩⟩ := vals2 r
  refine divmod_int (by omega) ?_ (.inl h2)
  rw [Int.fdiv_eq_ediv_of_nonneg i (by omega), Int.fmod_eq_emod_of_nonneg i (by omega)]
  have hn : H s.heap.objs.size = none := I.hok.fresh (Nat.le_refl _)
  exact ⟨.ref s.heap.objs.size, _, laidG I (xs := [.int (i / j), .int (i % j)]) (its := [.int (i / j) s.toks, .int (i % j) (s.toks + 1)]) (.cons (show RelV (.int (i / j)) _ from ⟨_, rfl⟩) (.cons (show RelV (.int (i % j)) _ from ⟨_, rfl⟩) .nil)) (by rw [sizeLine_eq]; show 2 ≤ _; omega) _, rfl, q _ _ hn⟩
def divmodD : List D → Rs Ce
  | [.int i, .int j] => if 0 < j ∧ i.natAbs < 2 ^ 3900 then .ok (.f (.tuple [.int (i / j), .int (i % j)])) else .no
  | _ => .no
theorem snd_divmod {K : PySem.W.Frag} : SndL K rDivmodG divmodD := fun F H xs ds c Q fh hx hg q => by
  unfold divmodD at hg
  split at hg
  · rename_i i j
    obtain ⟨⟨h1, h2⟩, hg⟩ := ite_ok hg
    cases hg
    obtain ⟨x, y, rfl, h3, h5⟩ := hx.two
    rw [h3.int, h5.int]
    refine ⟨i, j, rfl, divp_ok h1 (Nat.le_trans (intBits_le h2) (by omega)), fun p its hp => ?_⟩
    have go : Go F H (upd F p (.frz (gO its) (.tup [.int (i / j), .int (i % j)]))) (upd H p (.frz (gO its) (.tup [.int (i / j), .int (i % j)]))) noA := Go.newF fh hp
    exact q _ _ _ go (.inl ⟨_, rfl, .tup (.inl upd_same) (.cons (.int _) (.cons (.int _) .nil))⟩)
  · cases hg
theorem divmodD_r {i j : Int} (h : 0 < j) (h2 : i.natAbs < 2 ^ 3900) : divmodD [.int i, .int j] = .ok (.f (.tuple [.int (i / j), .int (i % j)])) := if_pos ⟨h, h2⟩
/-! ### range(i, j, -1) -/
def mRngD (ma : M (List D)) : M (List D) := fun e => (ma e).bind fun p => match p.1 with
  | [.int i, .int j, .int c] => if c = -1 ∧ -1 ≤ j ∧ i < 2 ^ 61 ∧ j < 2 ^ 61 ∧ -1 ≤ i then .ok (rgC i (-1) (i - j).toNat, p.2) else .no
  | _ => .no
theorem rngD_r {ma : M (List D)} {e e' : En} {i j : Int} (h : ma e = .ok ([.int i, .int j, .int (-1)], e')) (h1 : -1 ≤ j) (h2 : i < 2 ^ 61) (h3 : j < 2 ^ 61) (h4 : -1 ≤ i) : mRngD ma e = .ok (rgC i (-1) (i - j).toNat, e') := by
  unfold mRngD
  rw [h]
  exact if_pos ⟨rfl, h1, h2, h3, h4⟩
section
variable {X : Cx} {ex ey ez tg : Expr} {pos : Pos}
theorem pid_rngD {p : Pos} {ma : M (List D)} (hg : Gl X "range") (hm : X.mg "range" = none) (ha : PAd X [ex, ey, ez] ma) (hs : starEach [ex, ey, ez] X.env = (false, eval ex X.env) :: starEach [ey, ez] X.env := by rfl) (hpl : (backTo pos (starEach [ey, ez] X.env)).any (·.1) = false := by rfl) : PId X tg (.Call (.Name "range" p) [ex, ey, ez] [] pos) (mRngD ma) :=
  PIimp (pi_range3 hg hm ha hs hpl) fun σ H Q ⟨G, F, e, ds, e', r, hm, q⟩ => by
    obtain ⟨d, e1, h1, hm⟩ := bind_ok2 hm
    simp only at hm
    split at hm
    · rename_i i j c
      obtain ⟨⟨hc, c1, i0, ij, j1⟩, hm⟩ := ite_ok hm
      cases hm
      subst hc
      refine ⟨G, F, e, _, _, r, h1, fun vs F' H' n' hd => ?_⟩
      cases hd with
      | cons g t =>
        cases t with
        | cons g2 t =>
          cases t with
          | cons g3 t =>
            cases t
            rw [g.int_inv, g2.int_inv, g3.int_inv]
            exact ⟨i, j, -1, _, rfl, RgC.neg (by omega) (by omega) (by omega) (by omega), q _ F' H' n' (wk_rngC i (-1) _)⟩
    · cases hm
end
/-! ### sorted(d), the keys ints, any number of them -/
theorem ints_keys : ∀ {ks : List Int} {vs : List Value}, vs.length = ks.length → (∀ (j : Nat) v, vs[j]? = some v → ∃ y t, ks[j]? = some y ∧ v = .int y t) → IntsAre vs ks
  | [], [], _, _ => .nil
  | k :: ks, v :: vs, hl, h => by
    obtain ⟨y, t, h1, rfl⟩ := h 0 v rfl
    cases (Option.some.inj h1 : k = y)
    exact .cons _ _ (ints_keys (Nat.succ.inj hl) fun j v e => h (j + 1) v e)
  | [], _ :: _, hl, _ => by cases hl
  | _ :: _, [], hl, _ => by cases hl
def rSortDk : List V → Hp → VK → Prop := fun xs H Q => ∃ (a : Addr) (kvs : List (Key × V)) (ks : List Int), xs = [.ref a] ∧ Rd H a (.dK kvs) ∧ kvs.map (·.1) = ks.map Sum.inl ∧ ks.length ≤ sizeLine ∧
    ∀ (ys : List Int) (p : Addr), ys.Perm ks → ys.Pairwise (· ≤ ·) → H p = none → Q (.ref p) (upd H p (.lst (ys.map V.int)))
theorem call_sortDk {X : Cx} (hcalm : X.calm = true) : CallR X (.builtin "sorted") rSortDk := fun pins s σ H xs us Q I r h => by
  obtain ⟨a, kvs, ks, rfl, hd, hks, hz, q⟩ := h
  rw [Vals.ref1 r]
  obtain ⟨_, low, vs, rel, dd⟩ := dk_rd I.hok hd
  obtain ⟨ep, at_⟩ := dd.dictAt
  have keys : vs.map (·.1) = ks.map Sum.inl := rel.keys.symm.trans hks
  have len : vs.length = ks.length := by simpa using congrArg List.length keys
  refine Calls.call_function_entry PyProof.Rows.kind_sorted PyProof.Rows.plain_sorted PyProof.Rows.entry_sorted (PyProof.Rows.args_sorted1 _) ?_
  unfold Builtin.«sorted»
  refine wpAny_bind (m := checkCount "sorted" 1 1 _) (wpAny_pure (wpAny_bind ?_))
  refine PySem.W.kdu_collect (A := X.A.in1) (PySem.W.kdl_dict (knd := mixKind X.prog X.w) (kvs := vs) (ep := ep) low) (I.ok.hd hcalm) at_ (by omega) fun g tk acc old got => ?_
  have la : acc.toList.length = ks.length := Array.length_toList.trans (got.1.trans len)
  have are : IntsAre acc.toList ks := ints_keys la fun j v hv => by
    obtain ⟨k, x, e1, e2⟩ := got.2 j v (Array.getElem?_toList.symm.trans hv)
    have e3 : (ks.map Sum.inl)[j]? = some k := by
      rw [← keys, List.getElem?_map, e1]
      rfl
    rw [List.getElem?_map] at e3
    obtain ⟨y, hy, rfl⟩ := Option.map_eq_some_iff.mp e3
    rcases keyIs_shape (show keyIs (Sum.inl y) v = true from e2) with ⟨i, t, ek, ev⟩ | ⟨z, t, ek, ev⟩ <;> cases ek
    exact ⟨y, t, hy, ev⟩
  have J : Inv X pins σ H { s with heap := g, toks := tk } := I.kept old
  refine wpAny_bind (wpAny_newList ?_ (Nat.le_trans (Nat.le_of_eq la) hz))
  have ob : (g.push (seqObj "list" acc.toList.toArray 0)).get? g.objs.size = some (seqObj "list" acc.toList.toArray 0) := Heap.get?_push_size _ rfl
  show wpAny _ _ _ _ _ { s with heap := g.push (seqObj "list" acc.toList.toArray 0), toks := tk }
  refine wpAny_bind (wpAny_holding (wpAny_call_entry PyProof.Rows.slot_list_sort ⟨_, ob, rfl⟩ PyProof.Rows.entry_list_sort (SrtO.list_sort_ord SrtO.swo_int ob (Nat.le_trans (Nat.le_of_eq la) hz) (fun h2 => SrtO.ints_sortable are h2) fun out h1 h2 => ⟨_, rfl, ?_⟩) (PyProof.Rows.args_list_sort _)))
  obtain ⟨k1, k2, k3⟩ := SrtO.ints_out are h1 h2
  obtain ⟨e2, stands⟩ := PyProof.Rows.sortedHeap_at (vs := acc.toList) (out := out.toArray) ob
  have size : ((out.map SrtO.iv).map V.int).length ≤ sizeLine := by
    rw [List.length_map, k2.length_eq]
    exact hz
  refine wpAny_pure ⟨_, rfl, .ref g.objs.size, _, J.laid (t' := tk) (o := .lst ((out.map SrtO.iv).map V.int)) (fun b u e => ?_) (Nat.le_refl _) ⟨size, out, e2, vals_of_ints k1, stands⟩, rfl, q _ _ k2 k3 (J.hok.fresh (Nat.le_refl _))⟩
  have lt : b < g.objs.size := Heap.lt_size e
  rw [PyProof.Rows.sortedHeap_old (Nat.ne_of_lt lt) (by rw [size_push']; exact Nat.lt_succ_of_lt lt)]
  exact Heap.get?_push_of_some _ e
theorem inl_keys : ∀ {kvs : List (Key × V)} {is : List Int}, kvs.map (fun p => kD p.1) = is.map D.int → kvs.map (·.1) = is.map Sum.inl
  | [], [], _ => rfl
  | (k, v) :: kvs, i :: is, h => by
    simp only [List.map_cons, List.cons.injEq] at h ⊢
    refine ⟨?_, inl_keys h.2⟩
    cases k with
    | inl j => simp only [kD, D.int.injEq] at h; rw [h.1]
    | inr s => simp [kD] at h
  | [], _ :: _, h => by cases h
  | _ :: _, [], h => by cases h
def sortDkD : List D → Rs Ce
  | [.dict false ks vs] => (match intsOf ks with
    | some is => if is.length ≤ sizeLine then .ok (.l false ((srtI is).map .int)) else .no
    | none => .no)
  | _ => .no
theorem sortDkD_i {is : List Int} {vs : List D} (h : is.length ≤ sizeLine) : sortDkD [.dict false (is.map .int) vs] = .ok (.l false ((srtI is).map .int)) := by
  simp [sortDkD, h]
theorem snd_sortDk {K : PySem.W.Frag} : SndL K rSortDk sortDkD := fun F H xs ds c Q fh hx hg q => by
  unfold sortDkD at hg
  split at hg
  · rename_i ks vs
    split at hg
    · rename_i is hi
      obtain ⟨hz, hg⟩ := ite_ok hg
      cases hg
      obtain ⟨x, rfl, h⟩ := hx.one (ds := [])
      obtain ⟨a, o, xs, rfl, h1, h2, _⟩ := h.dict fh
      rcases h2 with ⟨_, kvs, rfl, h3, _⟩ | ⟨z, _⟩
      · rw [intsOf_eq hi] at h3
        refine ⟨a, kvs, is, rfl, .inl h1, inl_keys h3, hz, fun ns' p hp hs hn => ?_⟩
        have e : ns' = srtI is := leI_uniq hs (srtI_pw is) (hp.trans (srtI_perm is).symm)
        subst e
        exact q _ F _ (Go.newO fh hn) (.inr ⟨rfl, p, _, _, rfl, hn, ex_none fh hn, upd_same, rfl, dnA_ints _⟩)
      · cases z
    · cases hg
  · cases hg
end DL

/-! RQ: ratios in their lowest form, compared and reckoned with. -/
namespace ShQ
open PySem L2 DL PyProof.Rows Sh
abbrev Q := Int × Int
/-- a ratio in its lowest form -/
structure Low (x : Q) : Prop where
  pos : 0 < x.2
  co : Int.gcd x.1 x.2 = 1
theorem gcd_pos {a b : Int} (h : 0 < b) : 0 < (Int.gcd a b : Int) := gcd_pos_r h
theorem red_cross {a b : Int} (h : 0 < b) : (redI a b).1 * b = a * (redI a b).2 := by
  have g0 := gcd_pos (a := a) h
  have d1 := Int.ediv_mul_cancel (Int.gcd_dvd_left a b)
  have d2 := Int.ediv_mul_cancel (Int.gcd_dvd_right a b)
  unfold redI
  generalize (Int.gcd a b : Int) = g at *
  simp only
  generalize a / g = u at *
  generalize b / g = v at *
  rw [← d1, ← d2, Int.mul_assoc, Int.mul_comm g v]
theorem red_low {a b : Int} (h : 0 < b) : Low (redI a b) := by
  have g0 := gcd_pos (a := a) h
  have d2 := Int.ediv_mul_cancel (Int.gcd_dvd_right a b)
  refine ⟨?_, ?_⟩
  · unfold redI
    simp only
    rcases Int.lt_or_le 0 (b / (Int.gcd a b : Int)) with z | z
    · exact z
    · have := Int.mul_nonpos_of_nonpos_of_nonneg z (Int.le_of_lt g0)
      omega
  · unfold redI
    simp only
    exact Int.gcd_ediv_gcd_ediv_gcd (by omega)
theorem low_eq {x y : Q} (hx : Low x) (hy : Low y) (h : x.1 * y.2 = y.1 * x.2) : x = y := by
  have p1 := hx.pos
  have p2 := hy.pos
  have hn : x.1.natAbs * y.2.natAbs = y.1.natAbs * x.2.natAbs := by rw [← Int.natAbs_mul, ← Int.natAbs_mul, h]
  have c1 : Nat.Coprime x.1.natAbs x.2.natAbs := hx.co
  have c2 : Nat.Coprime y.1.natAbs y.2.natAbs := hy.co
  have d1 : x.2 ∣ y.2 := Int.natAbs_dvd_natAbs.mp (c1.symm.dvd_of_dvd_mul_left ⟨y.1.natAbs, by rw [hn, Nat.mul_comm]⟩)
  have d2 : y.2 ∣ x.2 := Int.natAbs_dvd_natAbs.mp (c2.symm.dvd_of_dvd_mul_left ⟨x.1.natAbs, by rw [← hn, Nat.mul_comm]⟩)
  have e : x.2 = y.2 := Int.le_antisymm (Int.le_of_dvd p2 d1) (Int.le_of_dvd p1 d2)
  rw [e] at h
  exact Prod.ext (Int.eq_of_mul_eq_mul_right (by omega) h) e
theorem red_self {x : Q} (h : Low x) : redI x.1 x.2 = x := by
  unfold redI
  rw [h.co]
  simp
theorem red_eq {a b c d : Int} (hb : 0 < b) (hd : 0 < d) : redI a b = redI c d ↔ a * d = c * b := by
  have c1 := red_cross (a := a) hb
  have c2 := red_cross (a := c) hd
  have l1 := red_low (a := a) hb
  have l2 := red_low (a := c) hd
  have p1 := l1.pos
  have p2 := l2.pos
  constructor
  · intro e
    rw [← e] at c2
    generalize redI a b = x at *
    -- x1 b = a x2, x1 d = c x2
    have : x.2 * (a * d) = x.2 * (c * b) := by
      rw [← Int.mul_assoc, Int.mul_comm x.2 a, ← c1, ← Int.mul_assoc, Int.mul_comm x.2 c, ← c2, Int.mul_assoc, Int.mul_assoc, Int.mul_comm b d]
    exact Int.eq_of_mul_eq_mul_left (by omega) this
  · intro e
    refine low_eq l1 l2 ?_
    generalize redI a b = x at *
    generalize redI c d = y at *
    -- x1 b = a x2, y1 d = c y2, a d = c b
    have : (b * d) * (x.1 * y.2) = (b * d) * (y.1 * x.2) := by
      have e1 : (b * d) * (x.1 * y.2) = (x.1 * b) * (d * y.2) := by
        simp only [Int.mul_assoc, Int.mul_comm, Int.mul_left_comm]
      have e2 : (b * d) * (y.1 * x.2) = (y.1 * d) * (b * x.2) := by
        simp only [Int.mul_assoc, Int.mul_comm, Int.mul_left_comm]
      rw [e1, e2, c1, c2]
      have e3 : a * x.2 * (d * y.2) = (a * d) * (x.2 * y.2) := by
        simp only [Int.mul_assoc, Int.mul_comm, Int.mul_left_comm]
      have e4 : c * y.2 * (b * x.2) = (c * b) * (x.2 * y.2) := by
        simp only [Int.mul_assoc, Int.mul_comm, Int.mul_left_comm]
      rw [e3, e4, e]
    exact Int.eq_of_mul_eq_mul_left (Int.ne_of_gt (Int.mul_pos hb hd)) this
theorem red_le {a b : Int} (hb : 0 < b) : (redI a b).1.natAbs ≤ a.natAbs ∧ (redI a b).2 ≤ b := by
  unfold redI
  exact ⟨Int.natAbs_ediv_le_natAbs a _, Int.ediv_le_self _ (by omega)⟩
theorem red_nn {a b : Int} (ha : 0 ≤ a) (hb : 0 < b) : 0 ≤ (redI a b).1 ∧ (redI a b).1 ≤ a := by
  have g0 := gcd_pos (a := a) hb
  unfold redI
  exact ⟨Int.ediv_nonneg ha (by omega), Int.ediv_le_self _ ha⟩
theorem red_abs {a b : Int} (hb : 0 < b) : ((redI a b).1.natAbs : Int) = (redI (a.natAbs : Int) b).1 ∧ (redI a b).2 = (redI (a.natAbs : Int) b).2 := by
  have l := red_low (a := a) hb
  have l2 := red_low (a := (a.natAbs : Int)) hb
  have c1 := red_cross (a := a) hb
  have c2 := red_cross (a := (a.natAbs : Int)) hb
  have p1 := l.pos
  have e : (((redI a b).1.natAbs : Int), (redI a b).2) = redI (a.natAbs : Int) b := by
    refine low_eq ⟨p1, ?_⟩ l2 ?_
    · have := l.co
      show Nat.gcd (((redI a b).1.natAbs : Nat) : Int).natAbs (redI a b).2.natAbs = 1
      rw [Int.natAbs_natCast]
      exact this
    · simp only
      generalize redI a b = x at *
      generalize redI (a.natAbs : Int) b = y at *
      have p2 := l2.pos
      have : (x.1.natAbs : Int) * b = a.natAbs * x.2 := by
        have h := congrArg Int.natAbs c1
        rw [Int.natAbs_mul, Int.natAbs_mul] at h
        have h2 : ((x.1.natAbs * b.natAbs : Nat) : Int) = ((a.natAbs * x.2.natAbs : Nat) : Int) := by rw [h]
        rw [Int.natCast_mul, Int.natCast_mul, Int.natAbs_of_nonneg (Int.le_of_lt hb), Int.natAbs_of_nonneg (Int.le_of_lt p1)] at h2
        exact h2
      have h3 : b * ((x.1.natAbs : Int) * y.2) = b * (y.1 * x.2) := by
        rw [← Int.mul_assoc, Int.mul_comm b, this, ← Int.mul_assoc b, Int.mul_comm b y.1, c2]
        simp only [Int.mul_assoc, Int.mul_comm, Int.mul_left_comm]
      exact Int.eq_of_mul_eq_mul_left (by omega) h3
  exact ⟨congrArg Prod.fst e, (congrArg Prod.snd e : _)⟩
/-- less, of ratios -/
def lt (x y : Q) : Prop := x.1 * y.2 < y.1 * x.2
instance (x y : Q) : Decidable (lt x y) := inferInstanceAs (Decidable (_ < _))
theorem lt_red {a b c d : Int} (hb : 0 < b) (hd : 0 < d) : lt (redI a b) (redI c d) ↔ a * d < c * b := by
  have c1 := red_cross (a := a) hb
  have c2 := red_cross (a := c) hd
  have p1 := (red_low (a := a) hb).pos
  have p2 := (red_low (a := c) hd).pos
  unfold lt
  generalize redI a b = x at *
  generalize redI c d = y at *
  have e1 : (b * d) * (x.1 * y.2) = (a * d) * (x.2 * y.2) := by
    rw [show (b * d) * (x.1 * y.2) = (x.1 * b) * (d * y.2) by simp only [Int.mul_assoc, Int.mul_comm, Int.mul_left_comm], c1]
    simp only [Int.mul_assoc, Int.mul_comm, Int.mul_left_comm]
  have e2 : (b * d) * (y.1 * x.2) = (c * b) * (x.2 * y.2) := by
    rw [show (b * d) * (y.1 * x.2) = (y.1 * d) * (b * x.2) by simp only [Int.mul_assoc, Int.mul_comm, Int.mul_left_comm], c2]
    simp only [Int.mul_assoc, Int.mul_comm, Int.mul_left_comm]
  have m1 : 0 < b * d := Int.mul_pos hb hd
  have m2 : 0 < x.2 * y.2 := Int.mul_pos p1 p2
  constructor
  · intro h
    have := Int.mul_lt_mul_of_pos_left h m1
    rw [e1, e2] at this
    exact Int.lt_of_mul_lt_mul_right this (Int.le_of_lt m2)
  · intro h
    have := Int.mul_lt_mul_of_pos_right h m2
    rw [← e1, ← e2] at this
    exact Int.lt_of_mul_lt_mul_left this (Int.le_of_lt m1)
theorem lt_trans {x y z : Q} (px : 0 < x.2) (py : 0 < y.2) (pz : 0 < z.2) (h1 : lt x y) (h2 : lt y z) : lt x z := by
  unfold lt at *
  have a1 := Int.mul_lt_mul_of_pos_right h1 pz
  have a2 := Int.mul_lt_mul_of_pos_right h2 px
  have e1 : x.1 * y.2 * z.2 = y.2 * (x.1 * z.2) := by simp only [Int.mul_assoc, Int.mul_comm, Int.mul_left_comm]
  have e2 : y.1 * x.2 * z.2 = y.1 * z.2 * x.2 := by simp only [Int.mul_assoc, Int.mul_comm, Int.mul_left_comm]
  have e3 : z.1 * y.2 * x.2 = y.2 * (z.1 * x.2) := by simp only [Int.mul_assoc, Int.mul_comm, Int.mul_left_comm]
  refine Int.lt_of_mul_lt_mul_left (a := y.2) ?_ (Int.le_of_lt py)
  omega
theorem lt_tri {x y : Q} (hx : Low x) (hy : Low y) : lt x y ∨ x = y ∨ lt y x := by
  unfold lt
  rcases Int.lt_trichotomy (x.1 * y.2) (y.1 * x.2) with h | h | h
  · exact .inl h
  · exact .inr (.inl (low_eq hx hy h))
  · exact .inr (.inr h)
theorem lt_irr (x : Q) : ¬ lt x x := fun h => Int.lt_irrefl _ h
theorem qD_eq (x y : Q) : eqD (qD x) (qD y) = .ok (.f (.bool (decide (x = y)))) := by
  have h := eqD_ti [x.1, x.2] [y.1, y.2]
  have e : decide ([x.1, x.2] = [y.1, y.2]) = decide (x = y) := by
    rw [decide_eq_decide]
    constructor
    · intro h
      cases x; cases y
      simp at h
      rw [h.1, h.2]
    · intro h
      rw [h]
  rw [e] at h
  exact h
end ShQ

namespace Md
open PySem L2 DL PyProof.Rows
noncomputable def m_law_common_b1 : En → Out :=
  (sSeq (sIf (mBool (m2 eqD (mH (mN (mVar 1))) (mH (mN (mC (.int 0)))))) sBreak sNext)
    (sParN 0 1 (mN (mVar 1)) (mN (mZ (m2 modD (mH (mL intD (aCons (mH (mN (mVar 0))) aNil))) (mH (mL intD (aCons (mH (mN (mVar 1))) aNil))))))))
noncomputable def m_law_common : En → Out :=
  (sSeq (sParN 0 1 (mN (mZ (mL absD (aCons (mH (mN (mVar 0))) aNil)))) (mN (mZ (mL absD (aCons (mH (mN (mVar 1))) aNil)))))
    (sSeq (sFor (mRng1 (aCons (mC (.int 400)) aNil)) (tgN 2) m_law_common_b1)
    (sRet (mN (mVar 0)))))
noncomputable def m_law_ratio_93f3c2 (S_law_common : Sf) : En → Out :=
  (sSeq (sIf (mBool (m2 ltD (mH (mN (mVar 1))) (mH (mN (mC (.int 0)))))) (sParN 0 1 (mN (mZ (m2 subD (mH (mN (mC (.int 0)))) (mH (mN (mVar 0)))))) (mN (mZ (m2 subD (mH (mN (mC (.int 0)))) (mH (mN (mVar 1))))))) sNext)
    (sSeq (sAsgF 2 (mZ (mCall S_law_common (aCons (aD (mVar 0)) (aCons (aD (mVar 1)) aNil)))))
    (sRet (mN (mTup (aCons (mZ (m2 fdivD (mH (mN (mVar 0))) (mH (mN (mVar 2))))) (aCons (mZ (m2 fdivD (mH (mN (mVar 1))) (mH (mN (mVar 2))))) aNil)))))))
noncomputable def m_law_less_bef1f4 (S_law_ratio : Sf) : En → Out :=
  (sRet (mCall S_law_ratio (aCons (aD (mZ (m2 subD (mH (m2 mulD (mH (m2 ixD (mH (mN (mVar 0))) (mH (mN (mC (.int 0)))))) (mH (m2 ixD (mH (mN (mVar 1))) (mH (mN (mC (.int 1)))))))) (mH (m2 mulD (mH (m2 ixD (mH (mN (mVar 1))) (mH (mN (mC (.int 0)))))) (mH (m2 ixD (mH (mN (mVar 0))) (mH (mN (mC (.int 1))))))))))) (aCons (aD (mZ (m2 mulD (mH (m2 ixD (mH (mN (mVar 0))) (mH (mN (mC (.int 1)))))) (mH (m2 ixD (mH (mN (mVar 1))) (mH (mN (mC (.int 1))))))))) aNil))))
noncomputable def m_law_below : En → Out :=
  (sRet (m2 ltD (mH (m2 mulD (mH (m2 ixD (mH (mN (mVar 0))) (mH (mN (mC (.int 0)))))) (mH (m2 ixD (mH (mN (mVar 1))) (mH (mN (mC (.int 1)))))))) (mH (m2 mulD (mH (m2 ixD (mH (mN (mVar 1))) (mH (mN (mC (.int 0)))))) (mH (m2 ixD (mH (mN (mVar 0))) (mH (mN (mC (.int 1))))))))))
end Md
/-! Sh9: the law's own ratios (by _law_common), shared. -/
namespace ShG
open PySem L2 DL PyProof.Rows Md Sh ShW ShQ
noncomputable def S_law_common : Sf := spN 2 3 m_law_common
theorem sem_law_common : ∀ cs c outs, S_law_common cs = .ok (c, outs) → cs.length = 2 ∧ runD 3 m_law_common cs = .ok (c, outs) := spN_sem
noncomputable def S_law_ratio : Sf := spN 2 3 (m_law_ratio_93f3c2 S_law_common)
theorem sem_law_ratio : ∀ cs c outs, S_law_ratio cs = .ok (c, outs) → cs.length = 2 ∧ runD 3 (m_law_ratio_93f3c2 S_law_common) cs = .ok (c, outs) := spN_sem
noncomputable def S_law_plus : Sf := spN 2 2 (m_law_plus S_law_ratio)
theorem sem_law_plus : ∀ cs c outs, S_law_plus cs = .ok (c, outs) → cs.length = 2 ∧ runD 2 (m_law_plus S_law_ratio) cs = .ok (c, outs) := spN_sem
noncomputable def S_law_less : Sf := spN 2 2 (m_law_less_bef1f4 S_law_ratio)
theorem sem_law_less : ∀ cs c outs, S_law_less cs = .ok (c, outs) → cs.length = 2 ∧ runD 2 (m_law_less_bef1f4 S_law_ratio) cs = .ok (c, outs) := spN_sem
noncomputable def S_law_below : Sf := spN 2 2 m_law_below
theorem sem_law_below : ∀ cs c outs, S_law_below cs = .ok (c, outs) → cs.length = 2 ∧ runD 2 m_law_below cs = .ok (c, outs) := spN_sem
theorem com_loop : ∀ (m : Nat) (ds : List D) (a b : Nat) (t : Option D), b < 2 ^ m → 2 * m ≤ ds.length →
    ∃ (b' : Int) (t' : Option D), loopL (tgN 2) m_law_common_b1 ds [some (.f (.int (a : Int))), some (.f (.int (b : Int))), t.map .f] = .nx [some (.f (.int ((Nat.gcd a b : Nat) : Int))), some (.f (.int b')), t'.map .f] := by
  have st : ∀ (d : D) (ds : List D) (a b : Nat) (t : Option D), 0 < b → loopL (tgN 2) m_law_common_b1 (d :: ds) [some (.f (.int (a : Int))), some (.f (.int (b : Int))), t.map .f] = loopL (tgN 2) m_law_common_b1 ds [some (.f (.int (b : Int))), some (.f (.int ((a % b : Nat) : Int))), some (.f d)] := by
    intro d ds a b t hb
    have hb0 : ¬ (b : Int) = 0 := by omega
    have hb1 : (0 : Int) < (b : Int) := by omega
    have hb2 : ¬ b = 0 := by omega
    exact loop_nx (tgN_f (a := t) rfl) (by simp [m_law_common_b1, hb0, hb2, modD_i hb1])
  have z : ∀ (ds : List D) (a : Nat) (t : Option D), ∃ (b' : Int) (t' : Option D), loopL (tgN 2) m_law_common_b1 ds [some (.f (.int (a : Int))), some (.f (.int ((0 : Nat) : Int))), t.map .f] = .nx [some (.f (.int ((Nat.gcd a 0 : Nat) : Int))), some (.f (.int b')), t'.map .f] := by
    intro ds a t
    rw [Nat.gcd_zero_right]
    cases ds with
    | nil => exact ⟨_, t, rfl⟩
    | cons d ds => exact ⟨0, some d, loop_bk (tgN_f (a := t) rfl) (by simp [m_law_common_b1])⟩
  intro m
  induction m with
  | zero =>
    intro ds a b t hb _
    have : b = 0 := by
      have : b < 1 := by simpa using hb
      omega
    subst this
    exact z ds a t
  | succ m ih =>
    intro ds a b t hb hl
    by_cases h0 : b = 0
    · subst h0
      exact z ds a t
    · match ds, hl with
      | d :: d2 :: ds, hl =>
        have hr := Nat.mod_lt a (show b > 0 by omega)
        have e1 : Nat.gcd a b = Nat.gcd b (a % b) := by
          rw [Nat.gcd_comm a b, Nat.gcd_rec b a, Nat.gcd_comm]
        rw [st d _ a b t (by omega), e1]
        by_cases h1 : a % b = 0
        · rw [h1]
          exact z _ b (some d)
        · have e2 : Nat.gcd b (a % b) = Nat.gcd (a % b) (b % (a % b)) := by
            rw [Nat.gcd_comm b, Nat.gcd_rec (a % b) b, Nat.gcd_comm]
          have hr2 := Nat.mod_lt b (show a % b > 0 by omega)
          have hd := Nat.div_add_mod b (a % b)
          have hq : 1 ≤ b / (a % b) := (Nat.le_div_iff_mul_le (by omega)).mpr (by omega)
          have hm : a % b ≤ (a % b) * (b / (a % b)) := Nat.le_mul_of_pos_right _ hq
          have := st d2 ds b (a % b) (some d) (by omega)
          rw [show (some d).map Ce.f = some (.f d) from rfl] at this
          rw [this, e2]
          exact ih ds (a % b) (b % (a % b)) (some d2) (by rw [Nat.pow_succ] at hb; omega) (by simp at hl; omega)
      | [_], hl => simp at hl; omega
      | [], hl => simp at hl
theorem absI (a : Int) : (if a < 0 then -a else a) = ((a.natAbs : Nat) : Int) := by split <;> omega
theorem law_common_r {a b : Int} (h : b.natAbs < 2 ^ 190) : S_law_common [.f (.int a), .f (.int b)] = .ok (.f (.int (Int.gcd a b : Int)), []) := by
  obtain ⟨b', t', g⟩ := com_loop 190 (rgD 0 400) a.natAbs b.natAbs none h (by rw [rgD_len]; decide)
  rw [show (none : Option D).map Ce.f = none from rfl] at g
  refine spN_r rfl ?_
  simp [runD_r, startE, m_law_common, absI, g, Int.gcd]
theorem law_ratio_r {a b : Int} (h : 0 < b) (h2 : b < 2 ^ 180) : S_law_ratio [.f (.int a), .f (.int b)] = .ok (.f (qD (redI a b)), []) := by
  have hg : DivOk (Int.gcd a b : Int) := divOk_dvd (gcd_pos_r h) (Int.gcd_dvd_right a b) h h2 (by decide)
  have hn : ¬ b < 0 := by omega
  have hc := law_common_r (a := a) (b := b) (by have : (2 : Nat) ^ 180 < 2 ^ 190 := by decide
                                                have h3 : (b.natAbs : Int) < ((2 ^ 180 : Nat) : Int) := by rw [Int.natCast_pow]; omega
                                                omega)
  refine spN_r rfl ?_
  simp [runD_r, startE, m_law_ratio_93f3c2, hn, hc, fdivD_i hg, qD, redI]
/-- a small ratio -/
structure Sm (x : Q) : Prop where
  p : 0 < x.2
  l : x.2 < 2 ^ 64
  a : x.1.natAbs < 2 ^ 64
theorem Sm.b1 {x : Q} (h : Sm x) : Bg x.1 := bg_small h.a
theorem Sm.b2 {x : Q} (h : Sm x) : Bg x.2 := bg_small (by have := h.p; have := h.l; omega)
theorem Sm.pp {x y : Q} (h : Sm x) (g : Sm y) : 0 < x.2 * y.2 ∧ x.2 * y.2 < 2 ^ 180 := by
  refine ⟨Int.mul_pos h.p g.p, ?_⟩
  have h1 : x.2 * y.2 < 2 ^ 64 * 2 ^ 64 := Int.mul_lt_mul h.l (Int.le_of_lt g.l) g.p (by decide)
  exact Int.lt_trans h1 (by decide)
theorem law_plus_r {x y : Q} (h : Sm x) (g : Sm y) : S_law_plus [.f (qD x), .f (qD y)] = .ok (.f (qD (redI (x.1 * y.2 + y.1 * x.2) (x.2 * y.2))), []) := by
  have hc := law_ratio_r (a := x.1 * y.2 + y.1 * x.2) (h.pp g).1 (h.pp g).2
  refine spN_r rfl ?_
  simp [runD_r, startE, m_law_plus, qD, mulD_i (bg_mul h.b1 g.b2), mulD_i (bg_mul g.b1 h.b2), mulD_i (bg_mul h.b2 g.b2)] at hc ⊢
  simp [hc]
theorem law_less_r {x y : Q} (h : Sm x) (g : Sm y) : S_law_less [.f (qD x), .f (qD y)] = .ok (.f (qD (redI (x.1 * y.2 - y.1 * x.2) (x.2 * y.2))), []) := by
  have hc := law_ratio_r (a := x.1 * y.2 - y.1 * x.2) (h.pp g).1 (h.pp g).2
  refine spN_r rfl ?_
  simp [runD_r, startE, m_law_less_bef1f4, qD, mulD_i (bg_mul h.b1 g.b2), mulD_i (bg_mul g.b1 h.b2), mulD_i (bg_mul h.b2 g.b2)] at hc ⊢
  simp [hc]
theorem law_below_r {x y : Q} (h : Sm x) (g : Sm y) : S_law_below [.f (qD x), .f (qD y)] = .ok (.f (.bool (decide (lt x y))), []) := by
  refine spN_r rfl ?_
  simp [runD_r, startE, m_law_below, qD, mulD_i (bg_mul h.b1 g.b2), mulD_i (bg_mul g.b1 h.b2), ShQ.lt]
  exact decide_eq_decide.mpr Iff.rfl
theorem plus_q {x y : Q} (h : Sm x) (g : Sm y) : S_plus [.f (qD x), .f (qD y)] = .ok (.f (qD (redI (x.1 * y.2 + y.1 * x.2) (x.2 * y.2))), []) := if_pos ⟨(h.pp g).1, h.b1, h.b2, g.b1, g.b2⟩
theorem minus_q {x y : Q} (h : Sm x) (g : Sm y) : S_minus [.f (qD x), .f (qD y)] = .ok (.f (qD (redI (x.1 * y.2 - y.1 * x.2) (x.2 * y.2))), []) := if_pos ⟨(h.pp g).1, h.b1, h.b2, g.b1, g.b2⟩
theorem compare_q {x y : Q} (h : Sm x) (g : Sm y) : S_compare [.f (qD x), .f (qD y)] = .ok (.f (.int (if lt y x then 1 else if lt x y then -1 else 0)), []) := by
  have e := ShN.compare_r h.b1 h.b2 g.b1 g.b2
  unfold qD
  rw [e]
  unfold ShN.sgn
  rcases Int.lt_trichotomy (x.1 * y.2) (y.1 * x.2) with q | q | q
  · rw [if_neg (show ¬ x.1 * y.2 - y.1 * x.2 = 0 by omega), if_neg (show ¬ 0 < x.1 * y.2 - y.1 * x.2 by omega), if_neg (show ¬ lt y x from fun z => by unfold ShQ.lt at z; omega), if_pos (show lt x y from q)]
  · rw [if_pos (show x.1 * y.2 - y.1 * x.2 = 0 by omega), if_neg (show ¬ lt y x from fun z => by unfold ShQ.lt at z; omega), if_neg (show ¬ lt x y from fun z => by unfold ShQ.lt at z; omega)]
  · rw [if_neg (show ¬ x.1 * y.2 - y.1 * x.2 = 0 by omega), if_pos (show 0 < x.1 * y.2 - y.1 * x.2 by omega), if_pos (show lt y x from q)]
/-! ### a pick from a list or a tuple -/
noncomputable def S_pick : Sf := fun cs => match Sh.S_law_pick cs with
  | .ok r => .ok r
  | _ => ShC.S_pickT cs
theorem sem_pick : ∀ cs c outs, S_pick cs = .ok (c, outs) → cs.length = 2 ∧ runD 2 (m_law_pick S_draw) cs = .ok (c, outs) := by
  intro cs c outs h
  unfold S_pick at h
  split at h
  · rename_i r q
    cases h
    exact Sh.sem_law_pick cs c outs q
  · exact ShC.sem_pickT cs c outs h
theorem pick_l {xs ts : List D} {a : Int} (hx : xs.all D.isI = true) (h1 : 0 ≤ a) (h2 : a < 2 ^ 62) (hl : 0 < ts.length) : ∃ (k : Nat) (d : D), ts[k]? = some d ∧ S_pick [.l true [.list xs, .int a], .f (.list ts)] = .ok (.f d, [.l true [.list xs, .int (a + 1)]]) := by
  obtain ⟨k, d, q, h⟩ := Sh.pick_r (ts := ts) hx h1 h2 hl
  refine ⟨k, d, q, ?_⟩
  unfold S_pick
  rw [h]
theorem pick_t {xs ts : List D} {a : Int} (hx : xs.all D.isI = true) (h1 : 0 ≤ a) (h2 : a < 2 ^ 62) (hl : 0 < ts.length) : ∃ (k : Nat) (d : D), ts[k]? = some d ∧ S_pick [.l true [.list xs, .int a], .f (.tuple ts)] = .ok (.f d, [.l true [.list xs, .int (a + 1)]]) := by
  obtain ⟨k, d, q, h⟩ := ShC.pickT_r (ts := ts) hx h1 h2 hl
  refine ⟨k, d, q, ?_⟩
  unfold S_pick
  exact h
end ShG

/-! FQ: rows of ratios: the next one, the one before, neighbours. -/
namespace ShF
open ShQ
/-- y is the least one above x with a second number of at most n -/
structure Nx (n : Int) (x y : Q) : Prop where
  low : Low y
  le : y.2 ≤ n
  up : lt x y
  mn : ∀ z : Q, 0 < z.2 → z.2 ≤ n → lt x z → ¬ lt z y
/-- y is the greatest one below x .. -/
structure Pv (n : Int) (x y : Q) : Prop where
  low : Low y
  le : y.2 ≤ n
  dn : lt y x
  mx : ∀ z : Q, 0 < z.2 → z.2 ≤ n → lt z x → ¬ lt y z
theorem Nx.uniq {n : Int} {x y z : Q} (h : Nx n x y) (g : Nx n x z) : y = z := by
  rcases lt_tri h.low g.low with q | q | q
  · exact absurd q (g.mn y h.low.pos h.le h.up)
  · exact q
  · exact absurd q (h.mn z g.low.pos g.le g.up)
theorem Pv.uniq {n : Int} {x y z : Q} (h : Pv n x y) (g : Pv n x z) : y = z := by
  rcases lt_tri h.low g.low with q | q | q
  · exact absurd q (h.mx z g.low.pos g.le g.dn)
  · exact q
  · exact absurd q (g.mx y h.low.pos h.le h.dn)
/-- x and y stand beside each other in the row of n -/
structure Adj (n : Int) (x y : Q) : Prop where
  px : 0 < x.2
  py : 0 < y.2
  lx : x.2 ≤ n
  ly : y.2 ≤ n
  dt : y.1 * x.2 - x.1 * y.2 = 1
  sm : n < x.2 + y.2
theorem gcd_one {a b u v : Int} (h : a * u - b * v = 1) : Int.gcd a b = 1 := by
  have h1 := Int.gcd_dvd_left a b
  have h2 := Int.gcd_dvd_right a b
  have h3 : (Int.gcd a b : Int) ∣ 1 := by
    rw [← h]
    exact Int.dvd_sub (Int.dvd_trans h1 (Int.dvd_mul_right ..)) (Int.dvd_trans h2 (Int.dvd_mul_right ..))
  have h4 := Int.natCast_dvd_natCast.mp h3
  exact Nat.dvd_one.mp h4
theorem Adj.lowX {n : Int} {x y : Q} (h : Adj n x y) : Low x := ⟨h.px, by
  have d := h.dt
  rw [Int.gcd_comm]
  exact gcd_one (u := y.1) (v := y.2) (by rw [Int.mul_comm x.2]; exact d)⟩
theorem Adj.lowY {n : Int} {x y : Q} (h : Adj n x y) : Low y := ⟨h.py, by
  have d := h.dt
  exact gcd_one (u := x.2) (v := x.1) (by rw [Int.mul_comm y.2]; exact d)⟩
theorem Adj.lt {n : Int} {x y : Q} (h : Adj n x y) : lt x y := by
  have d := h.dt
  unfold ShQ.lt
  omega
/-- nothing lies between -/
theorem Adj.no {n : Int} {x y z : Q} (h : Adj n x y) (z0 : 0 < z.2) (zn : z.2 ≤ n) (h1 : ShQ.lt x z) (h2 : ShQ.lt z y) : False := by
  have d := h.dt
  have px := h.px
  have py := h.py
  have sm := h.sm
  unfold ShQ.lt at h1 h2
  have e : x.2 * (y.1 * z.2 - z.1 * y.2) + y.2 * (z.1 * x.2 - x.1 * z.2) = z.2 * (y.1 * x.2 - x.1 * y.2) := by
    simp only [Int.mul_sub]
    rw [show x.2 * (z.1 * y.2) = y.2 * (z.1 * x.2) by simp only [Int.mul_comm, Int.mul_left_comm], show x.2 * (y.1 * z.2) = z.2 * (y.1 * x.2) by simp only [Int.mul_comm, Int.mul_left_comm], show y.2 * (x.1 * z.2) = z.2 * (x.1 * y.2) by simp only [Int.mul_comm, Int.mul_left_comm]]
    omega
  rw [d, Int.mul_one] at e
  have a1 : x.2 * 1 ≤ x.2 * (y.1 * z.2 - z.1 * y.2) := Int.mul_le_mul_of_nonneg_left (by omega) (by omega)
  have a2 : y.2 * 1 ≤ y.2 * (z.1 * x.2 - x.1 * z.2) := Int.mul_le_mul_of_nonneg_left (by omega) (by omega)
  omega
theorem Adj.nx {n : Int} {x y : Q} (h : Adj n x y) : Nx n x y := ⟨h.lowY, h.ly, h.lt, fun z z0 zn h1 h2 => h.no z0 zn h1 h2⟩
theorem Adj.pv {n : Int} {x y : Q} (h : Adj n x y) : Pv n y x := ⟨h.lowX, h.lx, h.lt, fun z z0 zn h1 h2 => h.no z0 zn h2 h1⟩
/-- the neighbour on the other side -/
def nb (n : Int) (x y : Q) : Q := ((n + x.2) / y.2 * y.1 - x.1, (n + x.2) / y.2 * y.2 - x.2)
theorem nb_fact {n a b : Int} (h0 : 0 < a) (h1 : a ≤ n) (h2 : 0 < b) (h3 : b ≤ n) : (n + a) / b * b - a ≤ n ∧ n < (n + a) / b * b - a + b ∧ 0 < (n + a) / b * b - a := by
  have e := Int.mul_ediv_add_emod (n + a) b
  have m0 := Int.emod_nonneg (n + a) (show b ≠ 0 by omega)
  have m1 := Int.emod_lt_of_pos (n + a) h2
  rw [Int.mul_comm] at e
  omega
theorem Adj.fwd {n : Int} {x y : Q} (h : Adj n x y) : Adj n y (nb n x y) := by
  obtain ⟨f1, f2, f3⟩ := nb_fact h.px h.lx h.py h.ly
  refine ⟨h.py, f3, h.ly, f1, ?_, by unfold nb; omega⟩
  have d := h.dt
  unfold nb
  simp only [Int.sub_mul, Int.mul_sub]
  rw [show y.1 * ((n + x.2) / y.2 * y.2) = (n + x.2) / y.2 * y.1 * y.2 by simp only [Int.mul_comm, Int.mul_left_comm]]
  omega
theorem Adj.bwd {n : Int} {x y : Q} (h : Adj n x y) : Adj n (nb n y x) x := by
  obtain ⟨f1, f2, f3⟩ := nb_fact h.py h.ly h.px h.lx
  refine ⟨f3, h.px, f1, h.lx, ?_, by unfold nb; omega⟩
  have d := h.dt
  unfold nb
  simp only [Int.sub_mul, Int.mul_sub]
  rw [show x.1 * ((n + y.2) / x.2 * x.2) = (n + y.2) / x.2 * x.1 * x.2 by simp only [Int.mul_comm, Int.mul_left_comm]]
  omega
/-- the next one of one in the row, by an inverse -/
theorem adj_up {n i : Int} {x : Q} (h : Low x) (hx : x.2 ≤ n) (hi : x.2 ∣ x.1 * i - 1) : Adj n x ((x.1 * (n - (n - -i) % x.2) + 1) / x.2, n - (n - -i) % x.2) := by
  have p := h.pos
  have m0 := Int.emod_nonneg (n - -i) (show x.2 ≠ 0 by omega)
  have m1 := Int.emod_lt_of_pos (n - -i) p
  have e := Int.mul_ediv_add_emod (n - -i) x.2
  obtain ⟨k, hk⟩ := hi
  have hd : x.2 ∣ x.1 * (n - (n - -i) % x.2) + 1 := by
    refine ⟨x.1 * ((n - -i) / x.2) - k, ?_⟩
    have h3 : x.1 * (x.2 * ((n - -i) / x.2) + (n - -i) % x.2) = x.1 * (n + i) := by rw [e, Int.sub_neg]
    rw [Int.mul_sub x.2, ← hk, Int.mul_sub x.1, Int.mul_left_comm x.2]
    rw [Int.mul_add, Int.mul_add] at h3
    omega
  have hq := Int.ediv_mul_cancel hd
  refine ⟨p, by show 0 < n - (n - -i) % x.2; omega, hx, by show n - (n - -i) % x.2 ≤ n; omega, ?_, by show n < x.2 + (n - (n - -i) % x.2); omega⟩
  show (x.1 * (n - (n - -i) % x.2) + 1) / x.2 * x.2 - x.1 * (n - (n - -i) % x.2) = 1
  rw [hq]
  omega
theorem adj_dn {n i : Int} {x : Q} (h : Low x) (hx : x.2 ≤ n) (hi : x.2 ∣ x.1 * i - 1) : Adj n ((x.1 * (n - (n - i) % x.2) - 1) / x.2, n - (n - i) % x.2) x := by
  have p := h.pos
  have m0 := Int.emod_nonneg (n - i) (show x.2 ≠ 0 by omega)
  have m1 := Int.emod_lt_of_pos (n - i) p
  have e := Int.mul_ediv_add_emod (n - i) x.2
  obtain ⟨k, hk⟩ := hi
  have hd : x.2 ∣ x.1 * (n - (n - i) % x.2) - 1 := by
    refine ⟨x.1 * ((n - i) / x.2) + k, ?_⟩
    have h3 : x.1 * (x.2 * ((n - i) / x.2) + (n - i) % x.2) = x.1 * (n - i) := by rw [e]
    rw [Int.mul_add x.2, ← hk, Int.mul_sub x.1, Int.mul_left_comm x.2]
    rw [Int.mul_add, Int.mul_sub] at h3
    omega
  have hq := Int.ediv_mul_cancel hd
  refine ⟨by show 0 < n - (n - i) % x.2; omega, p, by show n - (n - i) % x.2 ≤ n; omega, hx, ?_, by show n < (n - (n - i) % x.2) + x.2; omega⟩
  show x.1 * (n - (n - i) % x.2) - (x.1 * (n - (n - i) % x.2) - 1) / x.2 * x.2 = 1
  rw [hq]
  omega
end ShF

/-! DL35: zip of three lists; tuple(zip(..)). -/
namespace DL
open PySem L2 PyProof.Rows
/-! ### zip of three lists -/
def Itz3 (K : PySem.W.Frag) (N : Nat) (a b c : Addr) : It :=
  ⟨fun i H => i < N ∧ ∃ (xs ys zs : List V) (x y z : V), SqL K H a xs ∧ SqL K H b ys ∧ SqL K H c zs ∧ N ≤ xs.length ∧ N ≤ ys.length ∧ N ≤ zs.length ∧ xs[i]? = some x ∧ ys[i]? = some y ∧ zs[i]? = some z,
    fun i H v H' => ∃ T x y z, v = .ref T ∧ H T = none ∧ H' = upd H T (.tup [x, y, z]) ∧ (∀ xs, SqL K H a xs → xs[i]? = some x) ∧ (∀ ys, SqL K H b ys → ys[i]? = some y) ∧ ∀ zs, SqL K H c zs → zs[i]? = some z,
    fun i H => ∃ xs ys zs : List V, SqL K H a xs ∧ SqL K H b ys ∧ SqL K H c zs ∧ N ≤ xs.length ∧ N ≤ ys.length ∧ N ≤ zs.length ∧ (xs.length ≤ i ∨ ys.length ≤ i ∨ zs.length ≤ i)⟩
theorem turn_zip3 {P : Program} {w : World} {K : PySem.W.Frag} {elts : List Expr} {kk : Nat} {tpos : Pos} {N : Nat} {a b c z TI TO i1 i2 i3 : Addr} (D : ZipSep3 z TI TO i1 i2 i3 [i1, a] [i2, b] [i3, c]) (na : a ≠ i1) (nb : b ≠ i2) (nc : c ≠ i3) :
    Turn P w K (.Tuple elts kk tpos) (Itz3 K N a b c) [z, TI, TO, i1, i2, i3] z (fun i h => i ≤ N ∧ IsZip h z TI TO .none ∧ IsTupOf3 h TI (.ref i1) (.ref i2) (.ref i3) ∧ (∃ x y u, IsTupOf3 h TO x y u) ∧ h.IsListIter i1 a i ∧ h.IsListIter i2 b i ∧ h.IsListIter i3 c i) where
  mem := by simp
  obj := fun i h st c hc => by
    obtain ⟨_, hz, hTI, ⟨x, y, u, hTO⟩, ⟨o1, e1, _, d1⟩, ⟨o2, e2, _, d2⟩, ⟨o3, e3, _, d3⟩⟩ := st
    have e' : c = z ∨ c = TI ∨ c = TO ∨ c = i1 ∨ c = i2 ∨ c = i3 := by simpa using hc
    rcases e' with q | q | q | q | q | q
    · rw [q]; exact ⟨_, hz, fun v q => nomatch q⟩
    · rw [q]; exact ⟨_, hTI, fun v q => nomatch q⟩
    · rw [q]; exact ⟨_, hTO, fun v q => nomatch q⟩
    · rw [q]; exact ⟨o1, e1, fun v q => by rw [d1] at q; cases q⟩
    · rw [q]; exact ⟨o2, e2, fun v q => by rw [d2] at q; cases q⟩
    · rw [q]; exact ⟨o3, e3, fun v q => by rw [d3] at q; cases q⟩
  keep := fun i h h' st k => by
    obtain ⟨hN, hz, hTI, ⟨x, y, u, hTO⟩, h1, h2, h3⟩ := st
    exact ⟨hN, k z (by simp) _ hz, k TI (by simp) _ hTI, ⟨x, y, u, k TO (by simp) _ hTO⟩, h1.at fun o q => k i1 (by simp) o q, h2.at fun o q => k i2 (by simp) o q, h3.at fun o q => k i3 (by simp) o q⟩
  item := by
    intro X hP hw hK hc i pins s σ H E I hf st hg
    subst hP hw hK
    obtain ⟨hN, hz, hTI, ⟨x0, y0, u0, hTO⟩, h1, h2, h3⟩ := st
    obtain ⟨hlt, xs, ys, zs, x, y, u, hqx, hqy, hqz, l1, l2, l3, hx, hy, hu⟩ := hg
    obtain ⟨its, rv, p, _⟩ := I.list hqx
    obtain ⟨its2, rv2, p2, _⟩ := I.list hqy
    obtain ⟨its3, rv3, p3, _⟩ := I.list hqz
    obtain ⟨v1, hv1, ru1⟩ := rv.get hx
    obtain ⟨v2, hv2, ru2⟩ := rv2.get hy
    obtain ⟨v3, hv3, ru3⟩ := rv3.get hu
    have hh : X.A.in1.handled = none := I.ok.hd hc
    have hzl : z < s.heap.objs.size := Heap.lt_size hz
    have e1 := rv.length
    have e2 := rv2.length
    have e3 := rv3.length
    refine wpAny_pyNext_zipD3_item D (Draws.list hh i1 a na its.toArray) (Draws.list hh i2 b nb its2.toArray) (Draws.list hh i3 c nc its3.toArray) hz hTI hTO ⟨h1, p.isList⟩ ⟨h2, p2.isList⟩ ⟨h3, p3.isList⟩ (by simp; omega) (by simp; omega) (by simp; omega) fun y1 y2 y3 h' tk q1 q2 q3 z' TO' s1 s2 s3 hT hsz hk => ?_
    have g1 : y1 = v1 := by
      have : its[i]? = some y1 := by simpa using q1
      rw [hv1] at this
      exact (Option.some.inj this).symm
    have g2 : y2 = v2 := by
      have : its2[i]? = some y2 := by simpa using q2
      rw [hv2] at this
      exact (Option.some.inj this).symm
    have g3 : y3 = v3 := by
      have : its3[i]? = some y3 := by simpa using q3
      rw [hv3] at this
      exact (Option.some.inj this).symm
    subst g1 g2 g3
    refine ⟨_, rfl, wpAny_letOwnedTupleGo_zip (s := { s with heap := h', toks := tk }) z' fun h'' z'' sb => ?_⟩
    have hT2 : h''.get? s.heap.objs.size = some { cls := .type "tuple", data := .seq #[y1, y2, y3] } := (sb.2 _ (Nat.ne_of_gt hzl)).trans hT
    have new : ObjOk X.prog X.w (upd H s.heap.objs.size (.tup [x, y, u])) h'' s.heap.objs.size (.tup [x, y, u]) :=
      ⟨by show 3 ≤ sizeLine; decide, [y1, y2, y3], .cons ru1 (.cons ru2 (.cons ru3 .nil)), ⟨_, hT2, rfl, _, rfl⟩⟩
    have I1 : Inv X pins σ (upd H s.heap.objs.size (.tup [x, y, u])) { s with heap := h'', toks := tk } :=
      I.turnedNew (t' := tk) (ch := [z, TI, TO, i1, i2, i3]) (fun c o hb q => (sb.2 c (fun q' => hb (by simp [q']))).trans (hk c o (fun q' => hb (by simp [q'])) (fun q' => hb (by simp [q'])) (fun q' => hb (by simp [q'])) (fun q' => hb (by simp [q'])) (fun q' => hb (by simp [q'])) q)) hf (Nat.le_refl _) new
    refine ⟨.ref s.heap.objs.size, _, I1, rfl, ⟨_, x, y, u, rfl, I.hok.fresh (Nat.le_refl _), rfl, fun l hl => by rw [I.list_inj hl hqx]; exact hx, fun l hl => by rw [I.list_inj hl hqy]; exact hy, fun l hl => by rw [I.list_inj hl hqz]; exact hu⟩, ⟨hlt, z'', ?_, ⟨y1, y2, y3, ?_⟩, ?_, ?_, ?_⟩, fun c hcm => ?_⟩
    · exact (sb.2 _ D.TIz).trans (hk _ _ D.TIz D.TITO D.TIi1 D.TIi2 D.TIi3 hTI)
    · exact (sb.2 _ D.TOz).trans TO'
    · exact s1.1.at fun o q => (sb.2 _ D.zi1.symm).trans q
    · exact s2.1.at fun o q => (sb.2 _ D.zi2.symm).trans q
    · exact s3.1.at fun o q => (sb.2 _ D.zi3.symm).trans q
    · have hlt : c < s.heap.objs.size := by
        have e' : c = z ∨ c = TI ∨ c = TO ∨ c = i1 ∨ c = i2 ∨ c = i3 := by simpa using hcm
        rcases e' with q | q | q | q | q | q
        · rw [q]; exact hzl
        · rw [q]; exact Heap.lt_size hTI
        · rw [q]; exact Heap.lt_size hTO
        · rw [q]; obtain ⟨_, e1, _⟩ := h1; exact Heap.lt_size e1
        · rw [q]; obtain ⟨_, e2, _⟩ := h2; exact Heap.lt_size e2
        · rw [q]; obtain ⟨_, e3, _⟩ := h3; exact Heap.lt_size e3
      rw [upd_ne (Nat.ne_of_lt hlt)]
      exact (hf c hcm).1
  done := by
    intro X hP hw hK hc i pins s σ H E I hf st hg
    subst hP hw hK
    obtain ⟨hN, hz, hTI, ⟨x0, y0, u0, hTO⟩, h1, h2, h3⟩ := st
    obtain ⟨xs, ys, zs, hqx, hqy, hqz, l1, l2, l3, hend⟩ := hg
    obtain ⟨its, rv, p, _⟩ := I.list hqx
    obtain ⟨its2, rv2, p2, _⟩ := I.list hqy
    obtain ⟨its3, rv3, p3, _⟩ := I.list hqz
    have hh : X.A.in1.handled = none := I.ok.hd hc
    have e1 := rv.length
    have e2 := rv2.length
    have e3 := rv3.length
    exact wpAny_pyNext_zipD3_end D (Draws.list hh i1 a na its.toArray) (Draws.list hh i2 b nb its2.toArray) (Draws.list hh i3 c nc its3.toArray) hz hTI hTO ⟨h1, p.isList⟩ ⟨h2, p2.isList⟩ ⟨h3, p3.isList⟩ (by simp; omega) (by simp; omega) (by simp; omega)
      (by simp; omega) fun h' tk hk => ⟨rfl, I.turnedL (t' := tk) (ch := [z, TI, TO, i1, i2, i3]) (fun c o hb q =>
      hk c o (fun q' => hb (by simp [q'])) (fun q' => hb (by simp [q'])) (fun q' => hb (by simp [q'])) (fun q' => hb (by simp [q'])) (fun q' => hb (by simp [q'])) q) hf⟩
  self := fun A i s Q E st h => wpAny_pyIter_zip st.2.1 h
def iZip3 (K : PySem.W.Frag) (ta : TA) : TI := fun σ H R => ta σ H fun vs H1 => ∃ a b c xs ys zs, vs = [.ref a, .ref b, .ref c] ∧ SqL K H1 a xs ∧ SqL K H1 b ys ∧ SqL K H1 c zs ∧ R (Itz3 K (min (min xs.length ys.length) zs.length) a b c) H1
theorem pi_zip3 {X : Cx} {e e2 e3 : Expr} {ta : TA} {p pos tpos : Pos} {elts : List Expr} {kk : Nat} (hg : Gl X "zip") (hm : X.mg "zip" = none) (ha : PA X [e, e2, e3] ta)
    (hs : starEach [e, e2, e3] X.env = (false, eval e X.env) :: starEach [e2, e3] X.env := by rfl) (hpl : (backTo pos (starEach [e2, e3] X.env)).any (·.1) = false := by rfl) :
    PI X (.Tuple elts kk tpos) (.Call (.Name "zip" p) [e, e2, e3] [] pos) (iZip3 X.K ta) := by
  refine ⟨fun pins s σ H R I h => ?_⟩
  refine Call_ (ld_blt I hg hm PyProof.Rows.boot_zip (PyProof.Rows.callWith_type1 (thn (ha.run pos pins s σ H _ I h) fun us s1 ⟨vs, H1, I1, r1, q1⟩ => ?_) hs hpl))
  obtain ⟨a, b, c, xs, ys, zs, ex, hqx, hqy, hqz, q⟩ := q1
  subst ex
  cases r1 with
  | cons r rr =>
    cases rr with
    | cons r' rr =>
      cases rr with
      | cons r'' rr =>
        cases rr
        cases r
        cases r'
        cases r''
        obtain ⟨its, rv, p1, _⟩ := I1.list hqx
        obtain ⟨its2, rv2, p2, _⟩ := I1.list hqy
        obtain ⟨its3, rv3, p3, _⟩ := I1.list hqz
        have la : a < s1.heap.objs.size := p1.lt
        have lb : b < s1.heap.objs.size := p2.lt
        have lc : c < s1.heap.objs.size := p3.lt
        refine zip_begins3 (begins_list a its.toArray) (begins_list b its2.toArray) (begins_list c its3.toArray) p1.isList p2.isList p3.isList fun h' hz hTI hTO h1 h2 h3 hsz hk => wpAny_pyIter_zip hz ?_
        have I2 : Inv X pins σ H1 { s1 with heap := h' } := I1.kept (t' := s1.toks) hk
        refine ⟨s1.heap.objs.size + 5, [s1.heap.objs.size + 5, s1.heap.objs.size + 3, s1.heap.objs.size + 4, s1.heap.objs.size, s1.heap.objs.size + 1, s1.heap.objs.size + 2], _, _, H1, rfl, I2,
          turn_zip3 (N := min (min xs.length ys.length) zs.length) (zip_sep3 (fp1 := [a]) (fp2 := [b]) (fp3 := [c]) (fun x hx => by rw [List.mem_singleton.mp hx]; exact la) (fun x hx => by rw [List.mem_singleton.mp hx]; exact lb) (fun x hx => by rw [List.mem_singleton.mp hx]; exact lc)) (Nat.ne_of_lt la) (Nat.ne_of_lt (Nat.lt_succ_of_lt lb)) (Nat.ne_of_lt (Nat.lt_succ_of_lt (Nat.lt_succ_of_lt lc))),
          ⟨Nat.zero_le _, hz, hTI, ⟨_, _, _, hTO⟩, ⟨_, h1, rfl, rfl⟩, ⟨_, h2, rfl, rfl⟩, ⟨_, h3, rfl, rfl⟩⟩, fun x hxm => ?_, q⟩
        have e' : x = s1.heap.objs.size + 5 ∨ x = s1.heap.objs.size + 3 ∨ x = s1.heap.objs.size + 4 ∨ x = s1.heap.objs.size ∨ x = s1.heap.objs.size + 1 ∨ x = s1.heap.objs.size + 2 := by simpa using hxm
        have hle : s1.heap.objs.size ≤ x := by
          rcases e' with z | z | z | z | z | z
          · rw [z]; exact Nat.le_add_right _ _
          · rw [z]; exact Nat.le_add_right _ _
          · rw [z]; exact Nat.le_add_right _ _
          · rw [z]; exact Nat.le_refl _
          · rw [z]; exact Nat.le_add_right _ _
          · rw [z]; exact Nat.le_add_right _ _
        exact I1.fpOk hle (I1.hok.fresh hle)
def ziD3 : List D → List D → List D → List D
  | a :: as, b :: bs, c :: cs => .tupW [a, b, c] :: ziD3 as bs cs
  | _, _, _ => []
theorem ziD3_get : ∀ (as bs cs : List D) (i : Nat), (ziD3 as bs cs)[i]? = match as[i]?, bs[i]?, cs[i]? with
    | some a, some b, some c => some (.tupW [a, b, c])
    | _, _, _ => none
  | [], bs, cs, i => by simp [ziD3]
  | a :: as, [], cs, i => by cases i <;> simp [ziD3] <;> split <;> simp_all
  | a :: as, b :: bs, [], i => by cases i <;> simp [ziD3] <;> split <;> simp_all
  | a :: as, b :: bs, c :: cs, 0 => by simp [ziD3]
  | a :: as, b :: bs, c :: cs, i + 1 => by
    rw [ziD3, List.getElem?_cons_succ, List.getElem?_cons_succ, List.getElem?_cons_succ, List.getElem?_cons_succ, ziD3_get as bs cs i]
theorem tri_new {K : PySem.W.Frag} {F2 H2 : Hp} {T : Addr} {x y z : V} {dx dy dz : D} (x2 : Ex F2 H2) (hT : H2 T = none) (hx : Dn K F2 x dx) (hy : Dn K F2 y dy) (hz : Dn K F2 z dz) : ∃ F3, Go F2 H2 F3 (upd H2 T (.tup [x, y, z])) noA ∧ Dn K F3 (.ref T) (.tupW [dx, dy, dz]) := by
  have go : Go F2 H2 (upd F2 T (.tup [x, y, z])) (upd H2 T (.tup [x, y, z])) noA := Go.newF x2 hT
  exact ⟨_, go, .tupW upd_same (.cons (hx.mono go.ff) (.cons (hy.mono go.ff) (.cons (hz.mono go.ff) .nil)))⟩
theorem wk_zip3 {K : PySem.W.Frag} {F : Hp} {a b c : Addr} {xs ys zs : List V} {as bs cs : List D} (h : SqL K F a xs) (hd : DnA K F xs as) (h' : SqL K F b ys) (hd' : DnA K F ys bs) (h'' : SqL K F c zs) (hd'' : DnA K F zs cs) : Wk K (Itz3 K (min (min xs.length ys.length) zs.length) a b c) F (ziD3 as bs cs) := fun i F2 H2 x1 x2 => by
  have hx := x1.trans x2
  have hl := hd.len
  have hl' := hd'.len
  have hl'' := hd''.len
  refine ⟨fun d hi => ?_, fun hi => ?_⟩
  · rw [ziD3_get] at hi
    split at hi
    · rename_i da db dc g1 g2 g3
      cases hi
      obtain ⟨w, h1, h2⟩ := hd.get g1
      obtain ⟨w', h1', h2'⟩ := hd'.get g2
      obtain ⟨w'', h1'', h2''⟩ := hd''.get g3
      have b1 := (List.getElem?_eq_some_iff.mp h1).1
      have b2 := (List.getElem?_eq_some_iff.mp h1').1
      have b3 := (List.getElem?_eq_some_iff.mp h1'').1
      refine ⟨⟨by omega, xs, ys, zs, w, w', w'', Evl.ex_l hx h, Evl.ex_l hx h', Evl.ex_l hx h'', by omega, by omega, by omega, h1, h1', h1''⟩, fun x H3 y => ?_⟩
      obtain ⟨T, z, z', z'', rfl, hT, rfl, y, y', y''⟩ := y
      have e1 := y xs (Evl.ex_l hx h)
      have e2 := y' ys (Evl.ex_l hx h')
      have e3 := y'' zs (Evl.ex_l hx h'')
      rw [h1] at e1
      rw [h1'] at e2
      rw [h1''] at e3
      cases e1
      cases e2
      cases e3
      exact tri_new x2 hT (h2.mono x1) (h2'.mono x1) (h2''.mono x1)
    · cases hi
  · rw [ziD3_get] at hi
    refine ⟨xs, ys, zs, Evl.ex_l hx h, Evl.ex_l hx h', Evl.ex_l hx h'', by omega, by omega, by omega, ?_⟩
    rw [hl, hl', hl'']
    by_cases g1 : as.length ≤ i
    · exact .inl g1
    · by_cases g2 : bs.length ≤ i
      · exact .inr (.inl g2)
      · by_cases g3 : cs.length ≤ i
        · exact .inr (.inr g3)
        · rw [List.getElem?_eq_getElem (by omega), List.getElem?_eq_getElem (by omega), List.getElem?_eq_getElem (by omega)] at hi
          cases hi
/-- zip of three lists -/
def ziA3 : D → D → D → Rs (List D)
  | .list as, .list bs, .list cs => .ok (ziD3 as bs cs)
  | _, _, _ => .no
def mZip3 (ma mb mc : M D) : M (List D) := fun e => (ma e).bind fun p => (mb p.2).bind fun q => (mc q.2).bind fun r => (ziA3 p.1 q.1 r.1).bind fun ds => .ok (ds, r.2)
@[simp] theorem mZip3_r (ma mb mc : M D) (e : En) : mZip3 ma mb mc e = (ma e).bind fun p => (mb p.2).bind fun q => (mc q.2).bind fun r => (ziA3 p.1 q.1 r.1).bind fun ds => .ok (ds, r.2) := Eq.trans rfl rfl
@[simp] theorem ziA3_lll (as bs cs : List D) : ziA3 (.list as) (.list bs) (.list cs) = .ok (ziD3 as bs cs) := rfl
section
variable {X : Cx} {ex ey ez : Expr} {p pos : Pos}
theorem pid_zip3 {ma mb mc : M D} {elts : List Expr} {kk : Nat} {tpos : Pos} (hg : Gl X "zip") (hm : X.mg "zip" = none) (h : PAd X [ex, ey, ez] (aCons ma (aCons mb (aCons mc aNil)))) (hs : starEach [ex, ey, ez] X.env = (false, eval ex X.env) :: starEach [ey, ez] X.env := by rfl) (hpl : (backTo pos (starEach [ey, ez] X.env)).any (·.1) = false := by rfl) : PId X (.Tuple elts kk tpos) (.Call (.Name "zip" p) [ex, ey, ez] [] pos) (mZip3 ma mb mc) :=
  PIimp (pi_zip3 hg hm h hs hpl) fun σ H Q ⟨G, F, e, ds, e', r, hm, q⟩ => by
    obtain ⟨d, e1, h1, hm⟩ := bind_ok2 hm
    obtain ⟨d', e2, h2, hm⟩ := bind_ok2 hm
    obtain ⟨d'', e3, h2', hm⟩ := bind_ok2 hm
    obtain ⟨ds', h3, hm⟩ := Rs.bind_eq hm
    obtain ⟨as, bs, cs, rfl, rfl, rfl, rfl⟩ : ∃ as bs cs, d = .list as ∧ d' = .list bs ∧ d'' = .list cs ∧ ds' = ziD3 as bs cs := by
      cases d <;> cases d' <;> cases d'' <;> first
        | (cases h3; done)
        | (cases h3; exact ⟨_, _, _, rfl, rfl, rfl, rfl⟩)
    cases hm
    have h1' : aCons ma (aCons mb (aCons mc aNil)) e = .ok ([.list as, .list bs, .list cs], e3) := by
      simp only [aCons_r, h1, Rs.bind_ok, h2, h2', aNil_r]
    refine ⟨G, F, e, _, _, r, h1', fun vs F' H' n hd => ?_⟩
    cases hd with
    | cons g t =>
      cases t with
      | cons g' t =>
        cases t with
        | cons g'' t =>
          cases t
          obtain ⟨a, xs, rfl, q2, q3⟩ := Dn.sq (.inl g)
          obtain ⟨b, ys, rfl, q5, q6⟩ := Dn.sq (.inl g')
          obtain ⟨c, zs, rfl, q8, q9⟩ := Dn.sq (.inl g'')
          exact ⟨a, b, c, xs, ys, zs, rfl, Evl.ex_l n.r.fh q2, Evl.ex_l n.r.fh q5, Evl.ex_l n.r.fh q8, q _ F' H' n (wk_zip3 q2 q3 q5 q6 q8 q9)⟩
end
end DL

/-! DL36: tuple(zip(..)). -/
namespace DL
open PySem L2 PyProof.Rows
section
variable {prog : Program} {w : World} {A : Around} {E : Value → Shared → Prop} {s : Shared} {z TI TO i1 i2 T : Addr} {fp1 fp2 : List Addr} {n1 n2 i : Nat} {P1 P2 : Nat → Value → Prop} {St1 St2 : Nat → Heap → Prop} {f : Bool} {oT : Obj}
theorem zipH_item {Q : Value → Shared → Prop} (S : ZipSep2 z TI TO i1 i2 fp1 fp2) (D1 : Draws prog w A i1 fp1 n1 P1 St1) (D2 : Draws prog w A i2 fp2 n2 P2 St2)
    (hz : IsZipHeld s.heap z TI TO T f) (hT : s.heap.get? T = some oT) (hTI : IsTupOf2 s.heap TI (.ref i1) (.ref i2)) (st1 : St1 i s.heap) (st2 : St2 i s.heap) (hlt1 : i < n1) (hlt2 : i < n2)
    (hQ : ∀ x1 x2 h' tk, P1 i x1 → P2 i x2 → IsZipHeld h' z TI TO T true → St1 (i + 1) h' → St2 (i + 1) h' → IsTupOf2 h' s.heap.objs.size x1 x2 → h'.objs.size = s.heap.objs.size + 1 →
      (∀ c o, c ≠ z → c ≠ i1 → c ≠ i2 → s.heap.get? c = some o → h'.get? c = some o) → Q (.ref s.heap.objs.size) { s with heap := h', toks := tk }) :
    wpAny (model prog w) A (Builtin.«zip.__next__» ⟨[.ref z], []⟩) (fun fin s' => ∃ v, fin = .done (.ret v) ∧ Q v s') E s := by
  obtain ⟨hp, g, d, tk0, os⟩ := s
  show wpAny _ _ (field (.ref z) 2 >>= _) _ _ _
  refine wpAny_bind (wpAny_field hz rfl (x := .bool false) rfl ?_)
  show wpAny _ _ (field (.ref z) 3 >>= _) _ _ _
  refine wpAny_bind (wpAny_field hz rfl (x := .ref TI) rfl ?_)
  refine wpAny_bind (wpAny_seqItems hTI rfl ?_)
  show wpAny _ _ (Builtin.SmallTypes.ownedTupleIsFree (.ref z) >>= _) _ _ _
  refine wpAny_bind (wpAny_tupleHeld_zip hz hT fun h₁ hz₁ hs₁ => ?_)
  replace hs₁ : Heap.SameBut z hp h₁ := hs₁
  simp only [Bool.false_eq_true, if_false]
  refine wpAny_bind ?_
  rw [← Array.forIn_toList]
  simp only [List.forIn_cons, List.forIn_nil]
  refine wpAny_bind (wpAny_bind (wpAny_holding ?_))
  show wpAny _ _ (Builtin.SmallTypes.nextOf (.ref i1) >>= _) _ _ ⟨h₁, g, d, tk0, os⟩
  refine wpAny_bind (D1.item i _ _ _ hlt1 (D1.over st1 hs₁ S.zf1) fun x1 p1 tk1 hx1 sn1 hp1 => wpAny_pure ?_)
  replace hp1 : Heap.SameBut i1 h₁ p1 := hp1
  refine wpAny_pure ?_
  refine wpAny_bind (wpAny_bind (wpAny_holding ?_))
  show wpAny _ _ (Builtin.SmallTypes.nextOf (.ref i2) >>= _) _ _ ⟨p1, g, d, tk1, os⟩
  refine wpAny_bind (D2.item i _ _ _ hlt2 (D2.over (D2.over st2 hs₁ S.zf2) hp1 S.sep1_2) fun x2 p2 tk2 hx2 sn2 hp2 => wpAny_pure ?_)
  replace hp2 : Heap.SameBut i2 p1 p2 := hp2
  refine wpAny_pure (wpAny_pure ?_)
  show wpAny _ _ (newTuple [x1, x2] >>= _) _ _ ⟨p2, g, d, tk2, os⟩
  refine wpAny_bind (wpAny_newTuple ?_)
  have hsz : p2.objs.size = hp.objs.size := by rw [hp2.1, hp1.1, hs₁.1]
  have hz₃ : IsZipHeld p2 z TI TO T true := hp2.extBut _ _ S.zi2 (hp1.extBut _ _ S.zi1 hz₁)
  have hk : ∀ c o, c ≠ z → c ≠ i1 → c ≠ i2 → hp.get? c = some o → p2.get? c = some o := fun c o c1 c2 c3 e => hp2.extBut _ _ c3 (hp1.extBut _ _ c2 (hs₁.extBut _ _ c1 e))
  have sn1' : St1 (i + 1) p2 := D1.over sn1 hp2 S.sep2_1
  refine wpAny_pure ⟨_, rfl, ?_⟩
  show Q (.ref p2.objs.size) _
  have hpq : IsTupOf2 (p2.push { cls := .type "tuple", data := .seq #[x1, x2] }) p2.objs.size x1 x2 := Heap.get?_push_size _ rfl
  have hz4 : (p2.push { cls := .type "tuple", data := .seq #[x1, x2] }).objs.size = p2.objs.size + 1 := Heap.size_push ..
  have ff : ∀ b o, p2.get? b = some o → (p2.push { cls := .type "tuple", data := .seq #[x1, x2] }).get? b = some o := fun b o e => Heap.get?_push_of_some _ e
  rw [hsz] at hpq hz4 ⊢
  exact hQ x1 x2 _ tk2 hx1 hx2 (ff _ _ hz₃) (D1.frame _ _ _ sn1' fun b _ o e => ff b o e) (D2.frame _ _ _ sn2 fun b _ o e => ff b o e) hpq hz4 fun c o c1 c2 c3 e => ff _ _ (hk c o c1 c2 c3 e)
theorem zipH_end {Q : Fin → Shared → Prop} (S : ZipSep2 z TI TO i1 i2 fp1 fp2) (D1 : Draws prog w A i1 fp1 n1 P1 St1) (D2 : Draws prog w A i2 fp2 n2 P2 St2)
    (hz : IsZipHeld s.heap z TI TO T f) (hT : s.heap.get? T = some oT) (hTI : IsTupOf2 s.heap TI (.ref i1) (.ref i2)) (st1 : St1 i s.heap) (st2 : St2 i s.heap) (hle1 : i ≤ n1) (hle2 : i ≤ n2) (hend : i = n1 ∨ i = n2)
    (hE : ∀ h' tk e, (∀ c o, c ≠ z → c ≠ i1 → c ≠ i2 → s.heap.get? c = some o → h'.get? c = some o) → (∃ o, h'.get? e = some o ∧ o.cls = .type "StopIteration") → E (.ref e) { s with heap := h', toks := tk }) :
    wpAny (model prog w) A (Builtin.«zip.__next__» ⟨[.ref z], []⟩) Q E s := by
  obtain ⟨hp, g, d, tk0, os⟩ := s
  show wpAny _ _ (field (.ref z) 2 >>= _) _ _ _
  refine wpAny_bind (wpAny_field hz rfl (x := .bool false) rfl ?_)
  show wpAny _ _ (field (.ref z) 3 >>= _) _ _ _
  refine wpAny_bind (wpAny_field hz rfl (x := .ref TI) rfl ?_)
  refine wpAny_bind (wpAny_seqItems hTI rfl ?_)
  show wpAny _ _ (Builtin.SmallTypes.ownedTupleIsFree (.ref z) >>= _) _ _ _
  refine wpAny_bind (wpAny_tupleHeld_zip hz hT fun h₁ hz₁ hs₁ => ?_)
  replace hs₁ : Heap.SameBut z hp h₁ := hs₁
  simp only [Bool.false_eq_true, if_false]
  refine wpAny_bind ?_
  rw [← Array.forIn_toList]
  simp only [List.forIn_cons, List.forIn_nil]
  refine wpAny_bind (wpAny_bind (wpAny_holding ?_))
  show wpAny _ _ (Builtin.SmallTypes.nextOf (.ref i1) >>= _) _ _ ⟨h₁, g, d, tk0, os⟩
  by_cases hx : i = n1
  · subst hx
    refine wpAny_bind (D1.done _ _ _ (D1.over st1 hs₁ S.zf1) fun h₂ e hs₂ he => ?_)
    exact hE h₂ _ e (fun c o c1 c2 _ x => hs₂ _ _ c2 (hs₁.extBut _ _ c1 x)) he
  · have hy : i = n2 := by omega
    subst hy
    refine wpAny_bind (D1.item i _ _ _ (by omega) (D1.over st1 hs₁ S.zf1) fun x1 p1 tk1 hx1 sn1 hp1 => wpAny_pure ?_)
    replace hp1 : Heap.SameBut i1 h₁ p1 := hp1
    refine wpAny_pure ?_
    refine wpAny_bind (wpAny_bind (wpAny_holding ?_))
    show wpAny _ _ (Builtin.SmallTypes.nextOf (.ref i2) >>= _) _ _ ⟨p1, g, d, tk1, os⟩
    refine wpAny_bind (D2.done _ _ _ (D2.over (D2.over st2 hs₁ S.zf2) hp1 S.sep1_2) fun h₃ e hs₃ he => ?_)
    exact hE h₃ _ e (fun c o c1 c2 c3 x => hs₃ _ _ c3 (hp1.extBut _ _ c2 (hs₁.extBut _ _ c1 x))) he
theorem pyNextH_item {Q : Option Value → Shared → Prop} (S : ZipSep2 z TI TO i1 i2 fp1 fp2) (D1 : Draws prog w A.in1 i1 fp1 n1 P1 St1) (D2 : Draws prog w A.in1 i2 fp2 n2 P2 St2)
    (hz : IsZipHeld s.heap z TI TO T f) (hT : s.heap.get? T = some oT) (hTI : IsTupOf2 s.heap TI (.ref i1) (.ref i2)) (st1 : St1 i s.heap) (st2 : St2 i s.heap) (hlt1 : i < n1) (hlt2 : i < n2)
    (hQ : ∀ x1 x2 h' tk, P1 i x1 → P2 i x2 → IsZipHeld h' z TI TO T true → St1 (i + 1) h' → St2 (i + 1) h' → IsTupOf2 h' s.heap.objs.size x1 x2 → h'.objs.size = s.heap.objs.size + 1 →
      (∀ c o, c ≠ z → c ≠ i1 → c ≠ i2 → s.heap.get? c = some o → h'.get? c = some o) → Q (some (.ref s.heap.objs.size)) { s with heap := h', toks := tk }) :
    wpAny (model prog w) A (pyNext (.ref z)) Q E s := by
  have hTy : s.TypeIs (.ref z) "zip" := ⟨_, hz, rfl⟩
  unfold pyNext
  exact wpAny_bind (wpAny_attempt (wpAny_callSpecial?_slot (name := Str.ofString "__next__") hTy F.slot_zip_next
    (wpAny_call_entry F.slot_zip_next hTy F.entry_zip_next
      (zipH_item S D1 D2 hz hT hTI st1 st2 hlt1 hlt2 fun x1 x2 h' tk a1 a2 a3 a4 a5 a6 a7 a8 => wpAny_pure (hQ x1 x2 h' tk a1 a2 a3 a4 a5 a6 a7 a8)) (F.args_zip_next_1 _))))
theorem pyNextH_end {Q : Option Value → Shared → Prop} (S : ZipSep2 z TI TO i1 i2 fp1 fp2) (D1 : Draws prog w A.in1 i1 fp1 n1 P1 St1) (D2 : Draws prog w A.in1 i2 fp2 n2 P2 St2)
    (hz : IsZipHeld s.heap z TI TO T f) (hT : s.heap.get? T = some oT) (hTI : IsTupOf2 s.heap TI (.ref i1) (.ref i2)) (st1 : St1 i s.heap) (st2 : St2 i s.heap) (hle1 : i ≤ n1) (hle2 : i ≤ n2) (hend : i = n1 ∨ i = n2)
    (hQ : ∀ h' tk, (∀ c o, c ≠ z → c ≠ i1 → c ≠ i2 → s.heap.get? c = some o → h'.get? c = some o) → Q none { s with heap := h', toks := tk }) : wpAny (model prog w) A (pyNext (.ref z)) Q E s := by
  have hTy : s.TypeIs (.ref z) "zip" := ⟨_, hz, rfl⟩
  unfold pyNext
  refine wpAny_bind (wpAny_attempt (wpAny_callSpecial?_slot (name := Str.ofString "__next__") hTy F.slot_zip_next
    (wpAny_call_entry F.slot_zip_next hTy F.entry_zip_next (zipH_end S D1 D2 hz hT hTI st1 st2 hle1 hle2 hend fun h' tk e hk he => ?_) (F.args_zip_next_1 _))))
  obtain ⟨o, ho, hc⟩ := he
  refine wpAny_bind (wpAny_isInstance (T := "StopIteration") (b := true) ⟨o, ho, hc⟩ isSubtype_stop ?_)
  exact wpAny_pure (hQ _ _ hk)
end

/-- a list that takes in what a zip gives -/
structure ZS (h0 : Heap) (S z TI TO i1 i2 : Addr) (P1 P2 : Nat → Value → Prop) (St1 St2 : Nat → Heap → Prop) (acc : Array Value) (c : Nat) (h : Heap) : Prop where
  tI : IsTupOf2 h TI (.ref i1) (.ref i2)
  zz : (IsZip h z TI TO .none ∧ ∃ a b, IsTupOf2 h TO a b) ∨ (∃ T f oT, IsZipHeld h z TI TO T f ∧ h.get? T = some oT ∧ h0.objs.size ≤ T)
  s1 : St1 acc.size h
  s2 : St2 acc.size h
  sl : h.get? S = some { cls := .type "list", dict := none, data := .seq acc c, slots := #[] }
  ts : ∃ Ts : List Addr, acc.toList = Ts.map .ref ∧ Ts.Pairwise (fun a b : Nat => a < b) ∧ ∀ j T, Ts[j]? = some T → h0.objs.size ≤ T ∧ ∃ x y, IsTupOf2 h T x y ∧ P1 j x ∧ P2 j y
  kp : ∀ b o, b ≠ z → b ≠ TO → b ≠ i1 → b ≠ i2 → b ≠ S → h0.get? b = some o → h.get? b = some o
  gr : h0.objs.size ≤ h.objs.size
/-- .. and at its end -/
structure ZF (h0 : Heap) (S z TO i1 i2 : Addr) (P1 P2 : Nat → Value → Prop) (acc : Array Value) (c : Nat) (h : Heap) : Prop where
  sl : h.get? S = some { cls := .type "list", dict := none, data := .seq acc c, slots := #[] }
  ts : ∃ Ts : List Addr, acc.toList = Ts.map .ref ∧ Ts.Pairwise (fun a b : Nat => a < b) ∧ ∀ j T, Ts[j]? = some T → h0.objs.size ≤ T ∧ ∃ x y, IsTupOf2 h T x y ∧ P1 j x ∧ P2 j y
  kp : ∀ b o, b ≠ z → b ≠ TO → b ≠ i1 → b ≠ i2 → b ≠ S → h0.get? b = some o → h.get? b = some o
section
variable {prog : Program} {w : World} {A : Around} {s : Shared} {S z TI TO i1 i2 : Addr} {fp1 fp2 : List Addr} {n1 n2 : Nat} {P1 P2 : Nat → Value → Prop} {St1 St2 : Nat → Heap → Prop} {R : Result → Shared → Prop} {h0 : Heap} {res : Value}
theorem ZS.upd {acc : Array Value} {c : Nat} {h h' : Heap} (W : ZS h0 S z TI TO i1 i2 P1 P2 St1 St2 acc c h) (D1 : Draws prog w A i1 fp1 n1 P1 St1) (D2 : Draws prog w A i2 fp2 n2 P2 St2) (hS : S < h0.objs.size) (hz : S ≠ z) (hI : S ≠ TI) (hO : S ≠ TO) (h1 : S ∉ fp1) (h2 : S ∉ fp2)
    (k : ∀ b o, b ≠ S → h.get? b = some o → h'.get? b = some o) (hg : h.objs.size ≤ h'.objs.size) {c' : Nat} (sl : h'.get? S = some { cls := .type "list", dict := none, data := .seq acc c', slots := #[] }) : ZS h0 S z TI TO i1 i2 P1 P2 St1 St2 acc c' h' where
  tI := k _ _ (Ne.symm hI) W.tI
  zz := by
    rcases W.zz with ⟨q1, a, b, q2⟩ | ⟨T, f, oT, q1, q2, q3⟩
    · exact .inl ⟨k _ _ (Ne.symm hz) q1, a, b, k _ _ (Ne.symm hO) q2⟩
    · exact .inr ⟨T, f, oT, k _ _ (Ne.symm hz) q1, k _ _ (Nat.ne_of_gt (Nat.lt_of_lt_of_le hS q3)) q2, q3⟩
  s1 := D1.frame _ _ _ W.s1 fun b hb o e => k b o (fun q => h1 (q ▸ hb)) e
  s2 := D2.frame _ _ _ W.s2 fun b hb o e => k b o (fun q => h2 (q ▸ hb)) e
  sl := sl
  ts := by
    obtain ⟨Ts, q1, q2, q3⟩ := W.ts
    refine ⟨Ts, q1, q2, fun j T hj => ?_⟩
    obtain ⟨g1, x, y, g2, g3, g4⟩ := q3 j T hj
    exact ⟨g1, x, y, k _ _ (Nat.ne_of_gt (Nat.lt_of_lt_of_le hS g1)) g2, g3, g4⟩
  kp := fun b o b1 b2 b3 b4 b5 e => k b o b5 (W.kp b o b1 b2 b3 b4 b5 e)
  gr := Nat.le_trans W.gr hg
theorem loopZ (Sp : ZipSep2 z TI TO i1 i2 fp1 fp2) (D1 : Draws prog w A.in1.in1 i1 fp1 n1 P1 St1) (D2 : Draws prog w A.in1.in1 i2 fp2 n2 P2 St2) (hn : min n1 n2 ≤ sizeLine)
    (hS : S < h0.objs.size) (hz : z < h0.objs.size) (hI : TI < h0.objs.size) (hO : TO < h0.objs.size) (l1 : i1 < h0.objs.size) (l2 : i2 < h0.objs.size) (nz : S ≠ z) (nI : S ≠ TI) (nO : S ≠ TO) (f1 : S ∉ fp1) (f2 : S ∉ fp2) :
    ∀ (k : Nat) (h : Heap) (tk : Nat) (acc : Array Value) (c : Nat), min n1 n2 - acc.size = k → acc.size ≤ min n1 n2 → ZS h0 S z TI TO i1 i2 P1 P2 St1 St2 acc c h →
    (∀ h' tk' acc' c', acc'.size = min n1 n2 → ZF h0 S z TO i1 i2 P1 P2 acc' c' h' → R (.ok (.ret res)) { s with heap := h', toks := tk' }) →
    codeAny (model prog w) A (.builtin "list.extend.loop" ⟨[.ref S, .ref z, res], []⟩) R { s with heap := h, toks := tk } := by
  have n1' : S ≠ i1 := fun e => f1 (e ▸ Sp.mem1)
  have n2' : S ≠ i2 := fun e => f2 (e ▸ Sp.mem2)
  intro k
  induction k with
  | zero =>
    intro h tk acc c hk hi W hR
    refine codeAny_builtin F.entry_extend_loop ?_
    rw [Around.under_plainId F.plain_extend_loop _]
    show wpAny _ A.in1 (pyNext (.ref z) >>= _) _ _ _
    have fin : ∀ h' tk', (∀ b o, b ≠ z → b ≠ TO → b ≠ i1 → b ≠ i2 → h.get? b = some o → h'.get? b = some o) → R (.ok (.ret res)) { s with heap := h', toks := tk' } := fun h' tk' kk => by
      refine hR h' tk' acc c (by omega) ⟨kk _ _ nz nO n1' n2' W.sl, ?_, fun b o b1 b2 b3 b4 b5 e => kk b o b1 b2 b3 b4 (W.kp b o b1 b2 b3 b4 b5 e)⟩
      obtain ⟨Ts, q1, q2, q3⟩ := W.ts
      refine ⟨Ts, q1, q2, fun j T hj => ?_⟩
      obtain ⟨g1, x, y, g2, g3, g4⟩ := q3 j T hj
      have ne : ∀ {b : Addr}, b < h0.objs.size → T ≠ b := fun hb => Nat.ne_of_gt (Nat.lt_of_lt_of_le hb g1)
      exact ⟨g1, x, y, kk _ _ (ne hz) (ne hO) (ne l1) (ne l2) g2, g3, g4⟩
    have hend : acc.size = n1 ∨ acc.size = n2 := by omega
    rcases W.zz with ⟨q1, a, b, q2⟩ | ⟨T, f, oT, q1, q2, q3⟩
    · exact wpAny_bind (wpAny_pyNext_zipD2_end Sp D1 D2 q1 W.tI q2 W.s1 W.s2 (by omega) (by omega) hend fun h' tk' kk => wpAny_pure (fin h' tk' kk))
    · exact wpAny_bind (pyNextH_end Sp D1 D2 q1 q2 W.tI W.s1 W.s2 (by omega) (by omega) hend fun h' tk' kk => wpAny_pure (fin h' tk' fun b o b1 _ b3 b4 e => kk b o b1 b3 b4 e))
  | succ k ih =>
    intro h tk acc c hk hi W hR
    refine codeAny_builtin F.entry_extend_loop ?_
    rw [Around.under_plainId F.plain_extend_loop _]
    show wpAny _ A.in1 (pyNext (.ref z) >>= _) _ _ _
    have go : ∀ x1 x2 h' tk', P1 acc.size x1 → P2 acc.size x2 → (∃ T f oT, IsZipHeld h' z TI TO T f ∧ h'.get? T = some oT ∧ h0.objs.size ≤ T) → St1 (acc.size + 1) h' → St2 (acc.size + 1) h' → IsTupOf2 h' h.objs.size x1 x2 → h'.objs.size = h.objs.size + 1 →
        (∀ b o, b ≠ z → b ≠ TO → b ≠ i1 → b ≠ i2 → h.get? b = some o → h'.get? b = some o) →
        wpAny (model prog w) A.in1 (updateSeq S (·.push (.ref h.objs.size)) >>= fun _ => again (.builtin "list.extend.loop" ⟨[.ref S, .ref z, res], []⟩)) (fun fin s' => match fin with | .done f => R (.ok f) s' | .again c' => c'.quiet = true ∧ codeAny (model prog w) A c' R s') (fun e s' => R (.error e) s') { s with heap := h', toks := tk' } := fun x1 x2 h' tk' y1 y2 hz' t1 t2 hT hsz kk => by
      have hS' := kk _ _ nz nO n1' n2' W.sl
      have sb : Heap.SameBut S h' (h'.update S (Obj.mapSeq (·.push (.ref h.objs.size)))) := Heap.SameBut.update ..
      refine wpAny_bind ?_
      refine wpAny_updateSeq hS' rfl (wpAny_pure ⟨plainId_quiet F.plain_extend_loop _, ih _ tk' (acc.push (.ref h.objs.size)) _ (by rw [Array.size_push]; omega) (by rw [Array.size_push]; omega) ⟨?_, ?_, ?_, ?_, Heap.get?_update_self _ hS' rfl, ?_, ?_, ?_⟩ hR⟩) (by omega) (by show (acc.push _).size ≤ sizeLine + 1; rw [Array.size_push]; omega)
      · exact (sb.2 _ (Ne.symm nI)).trans (kk _ _ Sp.TIz Sp.TITO Sp.TIi1 Sp.TIi2 W.tI)
      · obtain ⟨T, f, oT, hf, hg, hle⟩ := hz'
        exact .inr ⟨T, f, oT, (sb.2 _ (Ne.symm nz)).trans hf, (sb.2 _ (Nat.ne_of_gt (Nat.lt_of_lt_of_le hS hle))).trans hg, hle⟩
      · rw [Array.size_push]
        exact D1.frame _ _ _ t1 fun b hb o e => (sb.2 _ (fun q => f1 (q ▸ hb))).trans e
      · rw [Array.size_push]
        exact D2.frame _ _ _ t2 fun b hb o e => (sb.2 _ (fun q => f2 (q ▸ hb))).trans e
      · obtain ⟨Ts, q1, q2, q3⟩ := W.ts
        have hlen : Ts.length = acc.size := by
          have := congrArg List.length q1
          simpa using this.symm
        refine ⟨Ts ++ [h.objs.size], by simp [q1], ?_, fun j T hj => ?_⟩
        · refine List.pairwise_append.mpr ⟨q2, List.pairwise_singleton _ _, fun a ha b hb => ?_⟩
          rw [List.mem_singleton.mp hb]
          obtain ⟨j, hj⟩ := List.mem_iff_getElem?.mp ha
          obtain ⟨_, x, y, g2, _⟩ := q3 j a hj
          exact Heap.lt_size g2
        · rcases Nat.lt_or_ge j Ts.length with q | q
          · rw [List.getElem?_append_left q] at hj
            obtain ⟨g1, x, y, g2, g3, g4⟩ := q3 j T hj
            have ne : ∀ {b : Addr}, b < h0.objs.size → T ≠ b := fun hb => Nat.ne_of_gt (Nat.lt_of_lt_of_le hb g1)
            exact ⟨g1, x, y, (sb.2 _ (ne hS)).trans (kk _ _ (ne hz) (ne hO) (ne l1) (ne l2) g2), g3, g4⟩
          · rw [List.getElem?_append_right q] at hj
            have hj0 : j - Ts.length = 0 := by
              have := (List.getElem?_eq_some_iff.mp hj).1
              simp at this
              omega
            rw [hj0] at hj
            cases hj
            have hja : j = acc.size := by omega
            rw [hja]
            exact ⟨W.gr, x1, x2, (sb.2 _ (Nat.ne_of_gt (Nat.lt_of_lt_of_le hS W.gr))).trans hT, y1, y2⟩
      · exact fun b o b1 b2 b3 b4 b5 e => (sb.2 _ b5).trans (kk b o b1 b2 b3 b4 (W.kp b o b1 b2 b3 b4 b5 e))
      · show h0.objs.size ≤ (h'.update S (Obj.mapSeq (·.push (.ref h.objs.size)))).objs.size
        rw [sb.1, hsz]
        exact Nat.le_succ_of_le W.gr
    rcases W.zz with ⟨q1, a, b, q2⟩ | ⟨T, f, oT, q1, q2, q3⟩
    · exact wpAny_bind (wpAny_pyNext_zipD2_item Sp D1 D2 q1 W.tI q2 W.s1 W.s2 (by omega) (by omega) fun x1 x2 h' tk' y1 y2 b1 b2 d1 d2 b5 b6 kk => go x1 x2 h' tk' y1 y2 ⟨_, false, _, b1, b5, W.gr⟩ d1 d2 b5 b6 kk)
    · exact wpAny_bind (pyNextH_item Sp D1 D2 q1 q2 W.tI W.s1 W.s2 (by omega) (by omega) fun x1 x2 h' tk' y1 y2 b1 d1 d2 b5 b6 kk => go x1 x2 h' tk' y1 y2 ⟨T, true, oT, b1, kk _ _ (Nat.ne_of_gt (Nat.lt_of_lt_of_le hz q3)) (Nat.ne_of_gt (Nat.lt_of_lt_of_le l1 q3)) (Nat.ne_of_gt (Nat.lt_of_lt_of_le l2 q3)) q2, q3⟩ d1 d2 b5 b6 fun b o c1 _ c3 c4 e => kk b o c1 c3 c4 e)
end

theorem zip_no_len : typeLookup (.type "zip") "__len__" = pure none := by rw [typeLookup_type, builtinLookup_eq_fast]; kernel_rfl
theorem zip_no_hint : typeLookup (.type "zip") "__length_hint__" = pure none := by rw [typeLookup_type, builtinLookup_eq_fast]; kernel_rfl
section
variable {prog : Program} {w : World} {A : Around} {E : Value → Shared → Prop} {s : Shared} {z TI TO i1 i2 : Addr} {fp1 fp2 : List Addr} {n1 n2 : Nat} {P1 P2 : Nat → Value → Prop} {St1 St2 : Nat → Heap → Prop} {a b : Value}
/-- the tuples that came, as they lie in the heap -/
def Came (h : Heap) (n : Nat) (P1 P2 : Nat → Value → Prop) (acc : Array Value) (h' : Heap) : Prop :=
  ∃ Ts : List Addr, acc.toList = Ts.map .ref ∧ Ts.Pairwise (fun a b : Nat => a < b) ∧ Ts.length = n ∧ ∀ j T, Ts[j]? = some T → h.objs.size ≤ T ∧ ∃ x y, IsTupOf2 h' T x y ∧ P1 j x ∧ P2 j y
theorem collect_zip {Q : List Value → Shared → Prop} (Sp : ZipSep2 z TI TO i1 i2 fp1 fp2) (D1 : ∀ A : Around, A.handled = none → Draws prog w A i1 fp1 n1 P1 St1) (D2 : ∀ A : Around, A.handled = none → Draws prog w A i2 fp2 n2 P2 St2) (hh : A.handled = none) (hn : min n1 n2 ≤ sizeLine)
    (hz : IsZip s.heap z TI TO .none) (hTI : IsTupOf2 s.heap TI (.ref i1) (.ref i2)) (hTO : IsTupOf2 s.heap TO a b) (st1 : St1 0 s.heap) (st2 : St2 0 s.heap) (f1 : ∀ b ∈ fp1, b < s.heap.objs.size) (f2 : ∀ b ∈ fp2, b < s.heap.objs.size)
    (hQ : ∀ h' tk' acc, Came s.heap (min n1 n2) P1 P2 acc h' → (∀ b o, b ≠ z → b ≠ TO → b ≠ i1 → b ≠ i2 → s.heap.get? b = some o → h'.get? b = some o) → Q acc.toList { s with heap := h', toks := tk' }) : wpAny (model prog w) A (collect (.ref z)) Q E s := by
  have lz : z < s.heap.objs.size := Heap.lt_size hz
  have lI : TI < s.heap.objs.size := Heap.lt_size hTI
  have lO : TO < s.heap.objs.size := Heap.lt_size hTO
  have l1 := f1 _ Sp.mem1
  have l2 := f2 _ Sp.mem2
  have nf1 : s.heap.objs.size ∉ fp1 := fun hm => Nat.lt_irrefl _ (f1 _ hm)
  have nf2 : s.heap.objs.size ∉ fp2 := fun hm => Nat.lt_irrefl _ (f2 _ hm)
  have hSI : s.heap.objs.size ≠ z := Nat.ne_of_gt lz
  unfold collect
  refine wpAny_bind (wpAny_runValue (codeAny_builtin F.entry_proto_collect ?_))
  rw [Around.under_plainId F.plain_proto_collect _]
  show wpAny _ A.in1 (newList [] >>= fun l => again (.builtin "list.__iadd__" ⟨[l, .ref z], []⟩)) _ _ s
  refine wpAny_bind (wpAny_newObj_type ?_)
  refine wpAny_pure ⟨plainId_quiet F.plain_list_iadd _, codeAny_builtin F.entry_list_iadd ?_⟩
  rw [Around.under_plainId F.plain_list_iadd _]
  show wpAny _ A.in1 (Builtin.List.listExtendWith (.ref s.heap.objs.size) (.ref z) (.ref s.heap.objs.size)) _ _ _
  unfold Builtin.List.listExtendWith
  have up : ∀ b o, s.heap.get? b = some o → (s.heap.push { cls := .type "list", data := .seq ([] : List Value).toArray }).get? b = some o := fun b o e => Heap.get?_push_of_some _ e
  have hz1 : IsZip (s.heap.push { cls := .type "list", data := .seq ([] : List Value).toArray }) z TI TO .none := up _ _ hz
  have hT : Shared.TypeIs { s with heap := s.heap.push { cls := .type "list", data := .seq ([] : List Value).toArray } } (.ref z) "zip" := ⟨_, hz1, rfl⟩
  refine wpAny_bind (wpAny_typeOf hT ?_)
  have h1 : Builtin.List.listSameRef (.ref s.heap.objs.size) (.ref z) = false := by simp [Builtin.List.listSameRef, hSI]
  have h2 : (Value.type "zip" == Value.type "list") = false := by decide
  have h3 : (Value.type "zip" == Value.type "tuple") = false := by decide
  simp only [h1, h2, h3, Bool.or_false, Bool.false_eq_true, if_false]
  refine wpAny_bind (wpAny_pyIter_zip hz1 ?_)
  refine wpAny_bind (wpAny_holding ?_)
  unfold Builtin.List.listLengthHint
  refine wpAny_bind (wpAny_specialOf hT zip_no_len ?_)
  show wpAny _ A.in1 (specialOf (Value.ref z) (Str.ofString "__length_hint__") >>= _) _ _ _
  refine wpAny_bind (wpAny_specialOf hT zip_no_hint ?_)
  refine wpAny_pure ?_
  show wpAny _ A.in1 (rule "list.extend.makes-room" >>= fun _ => Builtin.List.listTouch (.ref s.heap.objs.size) >>= fun _ =>
    again (.builtin "list.extend.loop" ⟨[.ref s.heap.objs.size, .ref z, .ref s.heap.objs.size], []⟩)) _ _ _
  refine wpAny_bind (wpAny_rule ?_)
  have hS₁ : (s.heap.push { cls := .type "list", data := .seq ([] : List Value).toArray }).get? s.heap.objs.size = some { cls := .type "list", data := .seq ([] : List Value).toArray } := Heap.get?_push_size _ rfl
  refine wpAny_bind ?_
  show wpAny _ A.in1 (updateSeq s.heap.objs.size (·.push .none) >>= fun _ => updateSeq s.heap.objs.size (·.pop)) _ _ _
  refine wpAny_bind (wpAny_updateSeq hS₁ rfl ?_)
  have hS₂ := Heap.get?_update_self (Obj.mapSeq (·.push Value.none)) hS₁ rfl
  refine wpAny_updateSeq hS₂ rfl ?_
  have hS₃ := Heap.get?_update_self (Obj.mapSeq (·.pop)) hS₂ rfl
  have oth : ∀ b o, b ≠ s.heap.objs.size → (s.heap.push { cls := .type "list", data := .seq ([] : List Value).toArray }).get? b = some o →
      (((s.heap.push { cls := .type "list", data := .seq ([] : List Value).toArray }).update s.heap.objs.size (Obj.mapSeq (·.push Value.none))).update s.heap.objs.size (Obj.mapSeq (·.pop))).get? b = some o :=
    fun b o hb e => (Heap.get?_update_other _ _ (Ne.symm hb)).trans ((Heap.get?_update_other _ _ (Ne.symm hb)).trans e)
  have all : ∀ b o, s.heap.get? b = some o → (((s.heap.push { cls := .type "list", data := .seq ([] : List Value).toArray }).update s.heap.objs.size (Obj.mapSeq (·.push Value.none))).update s.heap.objs.size (Obj.mapSeq (·.pop))).get? b = some o :=
    fun b o e => oth b o (Nat.ne_of_lt (Heap.lt_size e)) (up b o e)
  have hsz : (s.heap.push { cls := .type "list", data := .seq ([] : List Value).toArray }).objs.size = s.heap.objs.size + 1 := Heap.size_push ..
  have lt : ∀ {b : Addr}, b < s.heap.objs.size → b < (s.heap.push { cls := .type "list", data := .seq ([] : List Value).toArray }).objs.size := fun hb => by
    rw [hsz]
    exact Nat.lt_succ_of_lt hb
  have hhA : A.in1.in1.handled = none := hh
  refine wpAny_pure ⟨plainId_quiet F.plain_extend_loop _, loopZ (s := s) (h0 := s.heap.push { cls := .type "list", data := .seq ([] : List Value).toArray }) Sp (D1 _ hhA) (D2 _ hhA) hn (by rw [hsz]; exact Nat.lt_succ_self _) (lt lz) (lt lI) (lt lO) (lt l1) (lt l2) hSI (Nat.ne_of_gt lI) (Nat.ne_of_gt lO) nf1 nf2
    (min n1 n2 - 0) _ s.toks #[] _ rfl (Nat.zero_le _) ⟨all _ _ hTI, .inl ⟨all _ _ hz, a, b, all _ _ hTO⟩, (D1 _ hhA).frame _ _ _ st1 fun b _ o e => all b o e, (D2 _ hhA).frame _ _ _ st2 fun b _ o e => all b o e, hS₃, ⟨[], rfl, List.Pairwise.nil, fun j T h => by simp at h⟩,
      fun b o _ _ _ _ b5 e => oth b o b5 e, ?_⟩ fun h' tk' acc' c' hsz' W => ?_⟩
  · have e1 : ((s.heap.push { cls := .type "list", data := .seq ([] : List Value).toArray }).update s.heap.objs.size (Obj.mapSeq (·.push Value.none))).objs.size = (s.heap.push { cls := .type "list", data := .seq ([] : List Value).toArray }).objs.size := (Heap.SameBut.update ..).1
    have e2 : (((s.heap.push { cls := .type "list", data := .seq ([] : List Value).toArray }).update s.heap.objs.size (Obj.mapSeq (·.push Value.none))).update s.heap.objs.size (Obj.mapSeq (·.pop))).objs.size = ((s.heap.push { cls := .type "list", data := .seq ([] : List Value).toArray }).update s.heap.objs.size (Obj.mapSeq (·.push Value.none))).objs.size := (Heap.SameBut.update ..).1
    show (s.heap.push { cls := .type "list", data := .seq ([] : List Value).toArray }).objs.size ≤ (((s.heap.push { cls := .type "list", data := .seq ([] : List Value).toArray }).update s.heap.objs.size (Obj.mapSeq (·.push Value.none))).update s.heap.objs.size (Obj.mapSeq (·.pop))).objs.size
    rw [e2, e1]
    exact Nat.le_refl _
  · show wpAny _ A (load s.heap.objs.size >>= _) _ _ _
    refine wpAny_bind (wpAny_load W.sl ?_)
    refine wpAny_pure (hQ h' tk' acc' ?_ fun b o b1 b2 b3 b4 e => W.kp b o b1 b2 b3 b4 (Nat.ne_of_lt (Heap.lt_size e)) (up b o e))
    obtain ⟨Ts, q1, q2, q3⟩ := W.ts
    refine ⟨Ts, q1, q2, ?_, fun j T hj => ?_⟩
    · have := congrArg List.length q1
      simp at this
      omega
    · obtain ⟨g1, x, y, g2, g3, g4⟩ := q3 j T hj
      rw [hsz] at g1
      exact ⟨Nat.le_of_succ_le g1, x, y, g2, g3, g4⟩
theorem code_tuple_zip {Q₁ : Value → Shared → Prop} (Sp : ZipSep2 z TI TO i1 i2 fp1 fp2) (D1 : ∀ A : Around, A.handled = none → Draws prog w A i1 fp1 n1 P1 St1) (D2 : ∀ A : Around, A.handled = none → Draws prog w A i2 fp2 n2 P2 St2) (hh : A.handled = none) (hn : min n1 n2 ≤ sizeLine)
    (hz : IsZip s.heap z TI TO .none) (hTI : IsTupOf2 s.heap TI (.ref i1) (.ref i2)) (hTO : IsTupOf2 s.heap TO a b) (st1 : St1 0 s.heap) (st2 : St2 0 s.heap) (f1 : ∀ b ∈ fp1, b < s.heap.objs.size) (f2 : ∀ b ∈ fp2, b < s.heap.objs.size)
    (h : ∀ h' tk' acc, Came s.heap (min n1 n2) P1 P2 acc h' → (∀ b o, b ≠ z → b ≠ TO → b ≠ i1 → b ≠ i2 → s.heap.get? b = some o → h'.get? b = some o) → Q₁ (.ref h'.objs.size) { s with heap := h'.push { cls := .type "tuple", data := .seq acc }, toks := tk' }) :
    codeAny (model prog w) A (.call (.builtin "tuple.__new__") ⟨[.type "tuple", .ref z], []⟩) (wants Q₁ E) s := by
  refine codeAny_of_tree ?_
  show wpAny _ A.in1 (do checkBuiltinCall "tuple.__new__" ⟨[.type "tuple", .ref z], []⟩; again (.builtin "tuple.__new__" ⟨[.type "tuple", .ref z], []⟩)) _ _ s
  refine wpAny_bind (wpAny_of_eq (F.newCall_tuple_1 _) (wpAny_pure ⟨plainId_quiet F.plain_tuple_new _, codeAny_builtin F.entry_tuple_new ?_⟩))
  rw [Around.under_plainId F.plain_tuple_new _]
  have hsub := sub_tuple_self
  have hinit := init_tuple_lookup
  have hmh := madeHere_tuple
  have hTI' : s.TypeIs (.ref z) "zip" := ⟨_, hz, rfl⟩
  have hh1 : A.in1.handled = none := hh
  wp_walk using wpAny_typeOf hTI', collect_zip (A := A.in1) Sp D1 D2 hh1 hn hz hTI hTO st1 st2 f1 f2
  intro h' tk acc hc hk
  show wpAny _ _ (Builtin.Tuple.tupleExact acc.toList.toArray >>= fun v => ret v) _ _ _
  unfold Builtin.Tuple.tupleExact
  refine wpAny_bind (wpAny_newObj_type ?_ (by
    show acc.toList.toArray.size ≤ sizeLine
    obtain ⟨Ts, q1, _, q3, _⟩ := hc
    have := congrArg List.length q1
    simp at this
    simp only [Array.toArray_toList]
    omega))
  refine wpAny_pure ?_
  have e : acc.toList.toArray = acc := by simp
  rw [e]
  exact h h' tk acc hc hk
theorem call_tuple_zip {Q : Value → Shared → Prop} (Sp : ZipSep2 z TI TO i1 i2 fp1 fp2) (D1 : ∀ A : Around, A.handled = none → Draws prog w A i1 fp1 n1 P1 St1) (D2 : ∀ A : Around, A.handled = none → Draws prog w A i2 fp2 n2 P2 St2) (hh : A.handled = none) (hn : min n1 n2 ≤ sizeLine)
    (hz : IsZip s.heap z TI TO .none) (hTI : IsTupOf2 s.heap TI (.ref i1) (.ref i2)) (hTO : IsTupOf2 s.heap TO a b) (st1 : St1 0 s.heap) (st2 : St2 0 s.heap) (f1 : ∀ b ∈ fp1, b < s.heap.objs.size) (f2 : ∀ b ∈ fp2, b < s.heap.objs.size)
    (hQ : ∀ h' tk' acc, Came s.heap (min n1 n2) P1 P2 acc h' → (∀ b o, b ≠ z → b ≠ TO → b ≠ i1 → b ≠ i2 → s.heap.get? b = some o → h'.get? b = some o) → Q (.ref h'.objs.size) { s with heap := h'.push { cls := .type "tuple", data := .seq acc }, toks := tk' }) :
    wpAny (model prog w) A (call (.type "tuple") [.ref z]) Q E s := by
  refine callType_codes (Q₁ := fun obj s₁ => s₁.TypeIs obj "tuple" ∧ Q obj s₁) F.called_tuple (F.typeCall_tuple_1 _) F.entry_object_init
    (code_tuple_zip (A := A.in1) Sp D1 D2 hh hn hz hTI hTO st1 st2 f1 f2 fun h' tk acc hc hk => ⟨⟨_, Heap.get?_push_size _ rfl, rfl⟩, hQ h' tk acc hc hk⟩) fun obj s₁ h₁ => ?_
  exact ⟨h₁.1, F.args_object_init_2 obj _, object_init_meets F.called_tuple.init.lookup F.called_tuple.made (by decide) prog w A.in1 _ s₁ ⟨h₁.1, rfl, h₁.2⟩⟩
end
end DL

/-! DL37: tuple(zip(..)) as data. -/
namespace DL
open PySem L2 PyProof.Rows
/-- pairs laid, one behind the other -/
inductive LaidZ : Hp → List V → List V → List Addr → Hp → Prop where
  | nilL {H : Hp} {ys : List V} : LaidZ H [] ys [] H
  | nilR {H : Hp} {xs : List V} : LaidZ H xs [] [] H
  | cons {H H2 : Hp} {a : Addr} {its : List Value} {x y : V} {xs ys : List V} {Ts : List Addr} : H a = none → LaidZ (upd H a (.frz (gO its) (.tup [x, y]))) xs ys Ts H2 → LaidZ H (x :: xs) (y :: ys) (a :: Ts) H2
section
variable {P : Program} {w : World} {fs : List Addr} {H0 : Hp} {h0 h' : Heap}
theorem un_more {H : Hp} {a : Addr} {o : HO} (u : Un fs [] H0 H h0 h') (ha : h0.objs.size ≤ a) (hn : H a = none) : Un fs [] H0 (upd H a o) h0 h' where
  keep := u.keep
  slot := u.slot
  free := fun b ob q n hx => by
    rw [upd_ne (Nat.ne_of_lt (Nat.lt_of_lt_of_le (Heap.lt_size q) ha))]
    exact u.free b ob q n hx
  there := u.there
  tups := fun b xs q => by
    have := u.tups b xs q
    rw [upd_ne (ne_of_none this hn)]
    exact this
  frzs := fun b ob v q => by
    have := u.frzs b ob v q
    rw [upd_ne (ne_of_none this hn)]
    exact this
  tbls := fun b ps q => by
    obtain ⟨m, this⟩ := u.tbls b ps q
    rw [upd_ne (ne_of_none this hn)]
    exact ⟨m, this⟩
theorem hok_more {H : Hp} {a : Addr} {o : HO} (x : HOk P w H h') (hn : H a = none) (new : ObjOk P w (upd H a o) h' a o) : HOk P w (upd H a o) h' := fun b u e => by
  by_cases hb : b = a
  · subst hb; rw [upd_same] at e; cases e; exact new
  · rw [upd_ne hb] at e
    exact (x b u e).stay (fun c v _ q => q) (fun c q => by rw [upd_ne (ne_of_none q hn)]; exact q) fun c xs q => by rw [upd_ne (ne_of_none q hn)]; exact q
theorem lay_all : ∀ (Ts : List Addr) (xs ys : List V) (us ws : List Value) (H : Hp), Un fs [] H0 H h0 h' → HOk P w H h' → (∀ T ∈ Ts, h0.objs.size ≤ T ∧ H T = none) → Ts.Pairwise (fun a b : Nat => a < b) → Vals xs us → Vals ys ws → Ts.length = min us.length ws.length →
    (∀ (j : Nat) (T : Addr), Ts[j]? = some T → ∃ x y, IsTupOf2 h' T x y ∧ us[j]? = some x ∧ ws[j]? = some y) → ∃ H2, LaidZ H xs ys Ts H2 ∧ Un fs [] H0 H2 h0 h' ∧ HOk P w H2 h'
  | [], xs, ys, us, ws, H, u, k, _, _, rx, ry, hl, _ => by
    refine ⟨H, ?_, u, k⟩
    have l1 := rx.length
    have l2 := ry.length
    rw [List.length_nil] at hl
    rcases Nat.eq_zero_or_pos xs.length with q | q
    · rw [List.length_eq_zero_iff.mp q]
      exact .nilL
    · have : ys.length = 0 := by omega
      rw [List.length_eq_zero_iff.mp this]
      exact .nilR
  | T :: Ts, xs, ys, us, ws, H, u, k, hT, pw, rx, ry, hl, hj => by
    rw [List.length_cons] at hl
    cases rx with
    | nil => simp at hl
    | cons r1 rx =>
      cases ry with
      | nil => simp at hl
      | cons r2 ry =>
        rename_i x u1 xs us y w1 ys ws
        obtain ⟨h1, h2⟩ := hT T List.mem_cons_self
        obtain ⟨a, b, g1, g2, g3⟩ := hj 0 T rfl
        cases g2
        cases g3
        obtain ⟨p1, p2⟩ := List.pairwise_cons.mp pw
        have u' := un_more (o := .frz (gO [u1, w1]) (.tup [x, y])) u h1 h2
        have k' : HOk P w (upd H T (.frz (gO [u1, w1]) (.tup [x, y]))) h' := hok_more k h2 ⟨g1, by show 2 ≤ sizeLine; decide, [u1, w1], .cons r1 (.cons r2 .nil), ⟨_, g1, rfl, _, rfl⟩⟩
        obtain ⟨H2, q1, q2, q3⟩ := lay_all Ts xs ys us ws _ u' k' (fun S hS => ⟨(hT S (List.mem_cons_of_mem _ hS)).1, by
          rw [upd_ne (Nat.ne_of_gt (p1 S hS))]
          exact (hT S (List.mem_cons_of_mem _ hS)).2⟩) p2 rx ry (by simp at hl; omega) fun j S h => hj (j + 1) S h
        exact ⟨H2, .cons h2 q1, q2, q3⟩
end
/-- what walks over a list or a tuple draw -/
theorem sq_begin {h : Heap} {a : Addr} {its : Array Value} (hs : h.IsList a its ∨ h.IsTuple a its) : ∃ (o : Obj) (Hh : Heap → Prop), Begins (.ref a) o Hh ∧ Hh h ∧ ∀ (prog : Program) (w : World) (it : Addr), a ≠ it → ∃ St : Nat → Heap → Prop, (∀ A : Around, A.handled = none → Draws prog w A it [it, a] its.size (fun i v => its[i]? = some v) St) ∧
    ∀ h', h'.get? it = some o → (∀ b u, h.get? b = some u → h'.get? b = some u) → St 0 h' := by
  rcases hs with hl | ht
  · exact ⟨_, _, begins_list a its, hl, fun prog w it hne => ⟨_, fun A hh => Draws.list hh it a hne its, fun h' g k => ⟨⟨_, g, rfl, rfl⟩, hl.at fun o e => k a o e⟩⟩⟩
  · exact ⟨_, _, begins_tuple a its, ht, fun prog w it hne => ⟨_, fun A hh => Draws.tuple hh it a hne its, fun h' g k => ⟨⟨_, g, rfl, rfl⟩, ht.at fun o e => k a o e⟩⟩⟩
def SqA (K : PySem.W.Frag) (H : Hp) (a : Addr) (xs : List V) : Prop := SqL K H a xs ∨ SqT K H a xs
theorem inv_sq {X : Cx} {pins : List (Addr × Obj)} {σ : L2.St} {H : Hp} {s : Shared} {a : Addr} {xs : List V} (I : Inv X pins σ H s) (h : SqA X.K H a xs) : ∃ its : List Value, Vals xs its ∧ (s.heap.IsList a its.toArray ∨ s.heap.IsTuple a its.toArray) ∧ a < s.heap.objs.size ∧ xs.length ≤ sizeLine := by
  rcases h with h | h
  · obtain ⟨its, r, p, z⟩ := I.list h
    exact ⟨its, r, .inl p.isList, p.lt, z⟩
  · obtain ⟨its, r, p, z⟩ := I.tuple h
    obtain ⟨o, ho, _⟩ := id p
    exact ⟨its, r, .inr p, Heap.lt_size ho, z⟩
def tTupZip (K : PySem.W.Frag) (ta : TA) : TE := fun σ H Q => ta σ H fun vs H1 => ∃ a b xs ys, vs = [.ref a, .ref b] ∧ SqA K H1 a xs ∧ SqA K H1 b ys ∧
  ∀ Ts H2, LaidZ H1 xs ys Ts H2 → ∀ p its, H2 p = none → Q (.ref p) (upd H2 p (.frz (gO its) (.tup (Ts.map .ref))))
theorem vals_refs (Ts : List Addr) : Vals (Ts.map V.ref) (Ts.map Value.ref) := by
  induction Ts with
  | nil => exact .nil
  | cons T Ts ih => exact .cons rfl ih
theorem pe_tupZip {X : Cx} {e e2 : Expr} {ta : TA} {p p2 pos pos2 : Pos} (hc : X.calm = true) (hg : Gl X "tuple") (hm : X.mg "tuple" = none) (hgz : Gl X "zip") (hmz : X.mg "zip" = none) (ha : PA X [e, e2] ta)
    (hs : starEach [e, e2] X.env = (false, eval e X.env) :: starEach [e2] X.env := by rfl) (hpl : (backTo pos2 (starEach [e2] X.env)).any (·.1) = false := by rfl)
    (na : starEach [.Call (.Name "zip" p2) [e, e2] [] pos2] X.env = (false, eval (.Call (.Name "zip" p2) [e, e2] [] pos2) X.env) :: starEach [] X.env := by rfl) :
    PE X (.Call (.Name "tuple" p) [.Call (.Name "zip" p2) [e, e2] [] pos2] [] pos) (tTupZip X.K ta) := by
  refine ⟨fun pins s σ H Q I h => ?_⟩
  have hz : wpAny (model X.prog X.w) X.A (eval (.Call (.Name "zip" p2) [e, e2] [] pos2) X.env) (fun x s' => wpAny (model X.prog X.w) X.A (call (.type "tuple") [x]) (EP X pins σ Q) X.xe s') X.xe s := by
    refine Call_ (ld_blt I hgz hmz PyProof.Rows.boot_zip (PyProof.Rows.callWith_type1 (thn (ha.run pos2 pins s σ H _ I h) fun us s1 ⟨vs, H1, I1, r1, q1⟩ => ?_) hs hpl))
    obtain ⟨a, b, xs, ys, ex, hqx, hqy, q⟩ := q1
    subst ex
    cases r1 with
    | cons r rr =>
      cases rr with
      | cons r' rr =>
        cases rr
        cases r
        cases r'
        obtain ⟨its1, rv1, p1, la, z1⟩ := inv_sq I1 hqx
        obtain ⟨its2, rv2, p2, lb, z2⟩ := inv_sq I1 hqy
        obtain ⟨o1, K1, B1, k1, d1⟩ := sq_begin p1
        obtain ⟨o2, K2, B2, k2, d2⟩ := sq_begin p2
        refine zip_begins2 B1 B2 k1 k2 fun h' hz hTI hTO g1 g2 hsz hk => ?_
        have na1 : a ≠ s1.heap.objs.size := Nat.ne_of_lt la
        have nb1 : b ≠ s1.heap.objs.size + 1 := Nat.ne_of_lt (Nat.lt_succ_of_lt lb)
        obtain ⟨St1, D1, b1⟩ := d1 X.prog X.w _ na1
        obtain ⟨St2, D2, b2⟩ := d2 X.prog X.w _ nb1
        have l1 := rv1.length
        have l2 := rv2.length
        have hhA : X.A.handled = none := I1.ok.hd hc
        have in1 : ∀ c ∈ [s1.heap.objs.size, a], c < h'.objs.size := fun c hcm => by
          rw [hsz]
          rcases List.mem_cons.mp hcm with z | z
          · rw [z]; exact Nat.lt_add_of_pos_right (by decide)
          · rw [List.mem_singleton.mp z]; exact Nat.lt_of_lt_of_le la (Nat.le_add_right _ _)
        have in2 : ∀ c ∈ [s1.heap.objs.size + 1, b], c < h'.objs.size := fun c hcm => by
          rw [hsz]
          rcases List.mem_cons.mp hcm with z | z
          · rw [z]; exact Nat.add_lt_add_left (by decide) _
          · rw [List.mem_singleton.mp z]; exact Nat.lt_of_lt_of_le lb (Nat.le_add_right _ _)
        refine call_tuple_zip (s := { s1 with heap := h' }) (zip_sep2 (fp1 := [a]) (fp2 := [b]) (fun x hx => by rw [List.mem_singleton.mp hx]; exact la) (fun x hx => by rw [List.mem_singleton.mp hx]; exact lb)) D1 D2 hhA (by rw [List.size_toArray, List.size_toArray]; omega) hz hTI hTO (b1 h' g1 hk) (b2 h' g2 hk) in1 in2 fun h2 tk acc hcame kk => ?_
        obtain ⟨Ts, t1, t2, t3, t4⟩ := hcame
        have kept : ∀ c u, s1.heap.get? c = some u → h2.get? c = some u := fun c u e => by
          have lc := Heap.lt_size e
          have ne : ∀ k : Nat, c ≠ s1.heap.objs.size + k := fun k => Nat.ne_of_lt (Nat.lt_of_lt_of_le lc (Nat.le_add_right _ _))
          exact kk c u (ne 4) (ne 3) (ne 0) (ne 1) (hk c u e)
        have I2 : Inv X pins σ H1 { s1 with heap := h2, toks := tk } := I1.kept (t' := tk) kept
        have hle : s1.heap.objs.size ≤ h'.objs.size := by rw [hsz]; exact Nat.le_add_right _ _
        obtain ⟨H2, L, u2, k2'⟩ := lay_all (P := X.prog) (w := X.w) (fs := X.fs) (H0 := H1) (h0 := s1.heap) (h' := h2) Ts xs ys its1 its2 H1 (Un.kept kept) (I1.hok.kept kept) (fun T hT => by
          obtain ⟨j, hj⟩ := List.mem_iff_getElem?.mp hT
          have := Nat.le_trans hle (t4 j T hj).1
          exact ⟨this, I1.hok.fresh this⟩) t2 rv1 rv2 (by rw [t3, List.size_toArray, List.size_toArray]) (fun j T hj => by
          obtain ⟨_, x, y, g1, g2, g3⟩ := t4 j T hj
          exact ⟨x, y, g1, by simpa using g2, by simpa using g3⟩)
        have I3 : Inv X pins σ H2 { s1 with heap := h2, toks := tk } := I1.un (t' := tk) u2 k2'
        have hz' : (Ts.map V.ref).length ≤ sizeLine := by
          rw [List.length_map, t3, List.size_toArray, List.size_toArray]
          omega
        have hacc : acc = (Ts.map Value.ref).toArray := by
          rw [← t1]
        refine ⟨.ref h2.objs.size, _, ?_, rfl, q Ts H2 L h2.objs.size (Ts.map Value.ref) (I3.hok.fresh (Nat.le_refl _))⟩
        rw [hacc]
        exact laidG I3 (vals_refs Ts) hz' tk
  exact Call_ (ld_blt I hg hm boot_tuple (PyProof.Rows.callWith_type1 (args_cons (thn hz fun x s1 hx => args_nil hx) na) na))

def ziT : List D → List D → List D
  | a :: as, b :: bs => .tuple [a, b] :: ziT as bs
  | _, _ => []
theorem laidZ_go {K : PySem.W.Frag} {xs ys : List V} {Ts : List Addr} {H H2 : Hp} (L : LaidZ H xs ys Ts H2) : ∀ {F : Hp} {as bs : List D}, Ex F H → DnA K F xs as → DnA K F ys bs → ∃ F2, Go F H F2 H2 noA ∧ DnA K F2 (Ts.map .ref) (ziT as bs) := by
  induction L with
  | nilL =>
    intro F as bs e ha hb
    cases ha
    exact ⟨F, Go.refl e, by simp only [ziT, List.map_nil]; exact .nil⟩
  | nilR =>
    intro F as bs e ha hb
    cases hb
    have : ziT as [] = [] := by cases as <;> rfl
    exact ⟨F, Go.refl e, by rw [this]; exact .nil⟩
  | cons hn L ih =>
    intro F as bs e ha hb
    cases ha with
    | cons h1 ha =>
      cases hb with
      | cons h2 hb =>
        rename_i H H2 a its x y xs ys Ts d1 as d2 bs
        have go : Go F H (upd F a (.frz (gO its) (.tup [x, y]))) (upd H a (.frz (gO its) (.tup [x, y]))) noA := Go.newF e hn
        obtain ⟨F2, g2, hd⟩ := ih go.fh (ha.mono go.ff) (hb.mono go.ff)
        refine ⟨F2, go.trans g2, ?_⟩
        rw [ziT, List.map_cons]
        exact .cons (.tup (.inl (g2.ff _ _ upd_same)) (.cons ((h1.mono go.ff).mono g2.ff) (.cons ((h2.mono go.ff).mono g2.ff) .nil))) hd
/-- tuple(zip(a, b)) -/
def mTupZ (ma mb : M D) : M D := fun e => (ma e).bind fun p => (mb p.2).bind fun q => p.1.items.bind fun as => q.1.items.bind fun bs => .ok (.tuple (ziT as bs), q.2)
@[simp] theorem mTupZ_r (ma mb : M D) (e : En) : mTupZ ma mb e = (ma e).bind fun p => (mb p.2).bind fun q => p.1.items.bind fun as => q.1.items.bind fun bs => .ok (.tuple (ziT as bs), q.2) := Eq.trans rfl rfl
section
variable {X : Cx} {ex ey : Expr} {p p2 pos pos2 : Pos}
theorem pf_tupZ {ma mb : M D} (hg : Gl X "tuple") (hm : X.mg "tuple" = none) (hgz : Gl X "zip") (hmz : X.mg "zip" = none) (h : PAd X [ex, ey] (aCons ma (aCons mb aNil))) (hc : X.calm = true := by rfl)
    (hs : starEach [ex, ey] X.env = (false, eval ex X.env) :: starEach [ey] X.env := by rfl) (hpl : (backTo pos2 (starEach [ey] X.env)).any (·.1) = false := by rfl)
    (na : starEach [.Call (.Name "zip" p2) [ex, ey] [] pos2] X.env = (false, eval (.Call (.Name "zip" p2) [ex, ey] [] pos2) X.env) :: starEach [] X.env := by rfl) :
    PF X (.Call (.Name "tuple" p) [.Call (.Name "zip" p2) [ex, ey] [] pos2] [] pos) (mTupZ ma mb) := PEimp (pe_tupZip hc hg hm hgz hmz h hs hpl na) fun σ H Q ⟨G, F, e, d, e', r, hm, q⟩ => by
  obtain ⟨d1, e1, h1, hm⟩ := bind_ok2 hm
  obtain ⟨d2, e2, h2, hm⟩ := bind_ok2 hm
  obtain ⟨as, h3, hm⟩ := Rs.bind_eq hm
  obtain ⟨bs, h4, hm⟩ := Rs.bind_eq hm
  cases hm
  have h1' : aCons ma (aCons mb aNil) e = .ok ([d1, d2], e2) := by
    simp only [aCons_r, h1, Rs.bind_ok, h2, aNil_r]
  refine ⟨G, F, e, _, _, r, h1', fun vs F1 H1 n hd => ?_⟩
  cases hd with
  | cons g t =>
    cases t with
    | cons g' t =>
      cases t
      obtain ⟨a, xs, rfl, q1, q2⟩ := items_at g h3
      obtain ⟨b, ys, rfl, q3, q4⟩ := items_at g' h4
      refine ⟨a, b, xs, ys, rfl, q1.imp (Evl.ex_l n.r.fh) (Evl.ex_t n.r.fh), q3.imp (Evl.ex_l n.r.fh) (Evl.ex_t n.r.fh), fun Ts H2 L p its hp => ?_⟩
      obtain ⟨F2, g2, hd2⟩ := laidZ_go L n.r.fh q2 q4
      have go : Go F2 H2 (upd F2 p (.frz (gO its) (.tup (Ts.map .ref)))) (upd H2 p (.frz (gO its) (.tup (Ts.map .ref)))) noA := Go.newF g2.fh hp
      exact q _ _ _ (n.trans (n.r.step (g2.trans go))) (.tup (.inl upd_same) (hd2.mono go.ff))
end
end DL

/-! DL38: enumerate of a tuple. -/
namespace DL
open PySem L2 PyProof.Rows
theorem meets_enum_new1 {v : Value} {o : Obj} {H : Heap → Prop} (B : Begins v o H) :
    Meets (Builtin.«enumerate.__new__» ⟨[.type "enumerate", v], []⟩) (fun _ R s => H s.heap ∧
      R (.ok (.ret (.ref (s.heap.push o).objs.size))) { s with heap := (s.heap.push o).push { cls := .type "enumerate", data := .fields #[.none, .bool false, .ref s.heap.objs.size, rawInt 0, .none, .none] } }) :=
  .of_wp fun prog w A R s h => by
    obtain ⟨hp, g, d, tk, os⟩ := s; obtain ⟨h1, h⟩ := h
    have hsub := sub_enumerate
    have q1 : ∀ {A' : Around} {E : Value → Shared → Prop} {Q : Value → Shared → Prop}, Q (.ref hp.objs.size) ⟨hp.push o, g, d, tk, os⟩ → wpAny (model prog w) A' (pyIter v) Q E ⟨hp, g, d, tk, os⟩ :=
      fun q => B.iter prog w _ _ ⟨hp, g, d, tk, os⟩ _ h1 q
    wp_walk using q1
    refine wpAny_stack_any fun st => wpAny_pure ?_
    split
    · rename_i c _ _ _ _ _
      cases (c == Value.type "enumerate")
      · wp_walk using q1
        exact ⟨_, rfl, h⟩
      · wp_walk using q1
        exact ⟨_, rfl, h⟩
    · wp_walk using q1
      exact ⟨_, rfl, h⟩
section
variable {prog : Program} {w : World} {A : Around} {E : Value → Shared → Prop} {s : Shared}
theorem enum_begins1 {v : Value} {o : Obj} {H : Heap → Prop} {Q : Value → Shared → Prop} (B : Begins v o H) (h1 : H s.heap)
    (h : ∀ h', IsEnum h' (s.heap.objs.size + 1) s.heap.objs.size 0 .none → h'.get? s.heap.objs.size = some o → h'.objs.size = s.heap.objs.size + 2 →
      (∀ b o, s.heap.get? b = some o → h'.get? b = some o) → Q (.ref (s.heap.objs.size + 1)) { s with heap := h' }) :
    wpAny (model prog w) A (call (.type "enumerate") [v]) Q E s := by
  refine callType_new F.called_enumerate (by decide) (F.typeCall_enumerate_1 _) (F.newCall_enumerate_1 _) (fun obj => F.args_object_init_2 obj _) F.entry_enumerate_new
    (meets_enum_new1 B) ⟨h1, ?_⟩
  have hz : (s.heap.push o).objs.size = s.heap.objs.size + 1 := Heap.size_push ..
  show _ ∧ _
  rw [hz]
  have he : IsEnum ((s.heap.push o).push { cls := .type "enumerate", data := .fields #[.none, .bool false, .ref s.heap.objs.size, rawInt 0, .none, .none] }) (s.heap.objs.size + 1) s.heap.objs.size 0 .none := by
    have := Heap.get?_push_size (s.heap.push o) (o := { cls := .type "enumerate", data := .fields #[.none, .bool false, .ref s.heap.objs.size, rawInt 0, .none, .none] }) rfl
    rw [hz] at this; exact this
  refine ⟨⟨_, he, rfl⟩, h _ he (Heap.get?_push_of_some _ (Heap.get?_push_size _ B.free)) (by rw [Heap.size_push, hz]) fun b o x => Heap.get?_push_of_some _ (Heap.get?_push_of_some _ x)⟩
end
def IteT (K : PySem.W.Frag) (N : Nat) (a : Addr) : It :=
  ⟨fun i H => i < N ∧ ∃ (xs : List V) (x : V), SqT K H a xs ∧ xs.length = N ∧ xs[i]? = some x, fun i H v H' => ∃ T x, v = .ref T ∧ H T = none ∧ H' = upd H T (.tup [.int (i : Nat), x]) ∧ ∀ xs, SqT K H a xs → xs[i]? = some x,
    fun i H => ∃ xs : List V, SqT K H a xs ∧ xs.length = N ∧ N ≤ i⟩
theorem turn_enumT {P : Program} {w : World} {K : PySem.W.Frag} {elts : List Expr} {kk : Nat} {tpos : Pos} {N : Nat} {a e it : Addr} (nei : e ≠ it) (nea : e ≠ a) (nai : a ≠ it) :
    Turn P w K (.Tuple elts kk tpos) (IteT K N a) [e, it] e (fun i h => i ≤ N ∧ (∃ old, IsEnum h e it ((i : Nat) : Int) old) ∧ h.IsTupleIter it a i) where
  mem := by simp
  obj := fun i h st b hb => by
    obtain ⟨_, ⟨old, he⟩, ⟨o, ho, hc, hd⟩⟩ := st
    have e' : b = e ∨ b = it := by simpa using hb
    rcases e' with z | z
    · rw [z]; exact ⟨_, he, fun v q => nomatch q⟩
    · rw [z]; exact ⟨o, ho, fun v q => by rw [hd] at q; cases q⟩
  keep := fun i h h' st k => let ⟨hN, ⟨old, he⟩, hi⟩ := st; ⟨hN, ⟨old, k e (by simp) _ he⟩, hi.at fun o q => k it (by simp) o q⟩
  item := by
    intro X hP hw hK hc i pins s σ H E I hf st hg
    subst hP hw hK
    obtain ⟨hN, ⟨old, he⟩, hit⟩ := st
    obtain ⟨hlt, xs, x, hq, hl, hx⟩ := hg
    obtain ⟨its, rv, p, hz⟩ := I.tuple hq
    obtain ⟨u, hu, ru⟩ := rv.get hx
    have hel : e < s.heap.objs.size := Heap.lt_size he
    have hil : it < s.heap.objs.size := by obtain ⟨_, q, _⟩ := hit; exact Heap.lt_size q
    have hh : X.A.in1.handled = none := I.ok.hd hc
    have e1 := rv.length
    refine wpAny_pyNext_enum_itemD (Draws.tuple hh it a nai its.toArray) he ⟨hit, p⟩ (by simp; omega) nei (by simp [nei, nea]) fun y h' tk q1 ho hst hT hsz hk => ?_
    have g1 : y = u := by
      have : its[i]? = some y := by simpa using q1
      rw [hu] at this
      exact (Option.some.inj this).symm
    subst g1
    refine ⟨_, rfl, wpAny_letOwnedTupleGo_enum (s := { s with heap := h', toks := tk + 1 }) ho fun h'' he' sb => ?_⟩
    have hT2 : h''.get? s.heap.objs.size = some { cls := .type "tuple", data := .seq #[.int i tk, y] } := (sb.2 _ (Nat.ne_of_gt hel)).trans hT
    have new : ObjOk X.prog X.w (upd H s.heap.objs.size (.tup [.int (i : Nat), x])) h'' s.heap.objs.size (.tup [.int (i : Nat), x]) :=
      ⟨by show 2 ≤ sizeLine; decide, [.int i tk, y], .cons ⟨_, rfl⟩ (.cons ru .nil), ⟨_, hT2, rfl, _, rfl⟩⟩
    have I1 : Inv X pins σ (upd H s.heap.objs.size (.tup [.int (i : Nat), x])) { s with heap := h'', toks := tk + 1 } :=
      I.turnedNew (ch := [e, it]) (fun b ob hb q => (sb.2 b (fun z => hb (by simp [z]))).trans (hk b ob (fun z => hb (by simp [z])) (fun z => hb (by simp [z])) q)) hf (Nat.le_refl _) new
    refine ⟨.ref s.heap.objs.size, _, I1, rfl, ⟨_, x, rfl, I.hok.fresh (Nat.le_refl _), rfl, fun ys hy => by rw [I.tuple_inj hy hq]; exact hx⟩, ⟨hlt, ⟨y, ?_⟩, hst.1.at fun o q => (sb.2 it (Ne.symm nei)).trans q⟩, fun b hb => ?_⟩
    · have e1 : ((i + 1 : Nat) : Int) = (i : Int) + 1 := by omega
      rw [e1]; exact he'
    · have hb' : b < s.heap.objs.size := by
        have e' : b = e ∨ b = it := by simpa using hb
        rcases e' with z | z
        · rw [z]; exact hel
        · rw [z]; exact hil
      rw [upd_ne (Nat.ne_of_lt hb')]
      exact (hf b hb).1
  done := by
    intro X hP hw hK hc i pins s σ H E I hf st hg
    subst hP hw hK
    obtain ⟨hN, ⟨old, he⟩, hit⟩ := st
    obtain ⟨xs, hq, hl, hx⟩ := hg
    obtain ⟨its, rv, p, hz⟩ := I.tuple hq
    obtain ⟨f0, f1, f2, f3, f4, f5⟩ := hf it (by simp)
    have hh : X.A.in1.handled = none := I.ok.hd hc
    have e1 := rv.length
    have ei : i = its.toArray.size := by rw [List.size_toArray]; omega
    subst ei
    exact wpAny_pyNext_enum_endD (Draws.tuple hh it a nai its.toArray) he ⟨hit, p⟩ fun h' eb => ⟨rfl, I.turned (t' := s.toks) (fun b o hb q => eb b o hb q) f0 f1 f3 f4 f5⟩
  self := fun A i s Q E st h => let ⟨_, ⟨_, he⟩, _⟩ := st; wpAny_pyIter_enum he h
def iEnumT (K : PySem.W.Frag) (ta : TA) : TI := fun σ H R => ta σ H fun vs H1 => ∃ a xs, vs = [.ref a] ∧ SqT K H1 a xs ∧ R (IteT K xs.length a) H1
theorem pi_enumT {X : Cx} {e : Expr} {ta : TA} {p pos tpos : Pos} {elts : List Expr} {kk : Nat} (hg : Gl X "enumerate") (hm : X.mg "enumerate" = none) (ha : PA X [e] ta) (hs : starEach [e] X.env = [(false, eval e X.env)] := by rfl) :
    PI X (.Tuple elts kk tpos) (.Call (.Name "enumerate" p) [e] [] pos) (iEnumT X.K ta) := by
  refine ⟨fun pins s σ H R I h => ?_⟩
  refine Call_ (ld_blt I hg hm boot_enumerate (PyProof.Rows.callWith_type1 (thn (ha.run pos pins s σ H _ I h) fun us s1 ⟨vs, H1, I1, r1, q1⟩ => ?_) hs rfl))
  obtain ⟨a, xs, ex, hq, q⟩ := q1
  subst ex
  cases r1 with
  | cons r rr =>
    cases rr
    cases r
    obtain ⟨its, rv, p', hz⟩ := I1.tuple hq
    obtain ⟨o', ho', _⟩ := id p'
    have la : a < s1.heap.objs.size := Heap.lt_size ho'
    refine enum_begins1 (begins_tuple a its.toArray) p' fun h' he hit hsz hk => wpAny_pyIter_enum he ?_
    have I2 : Inv X pins σ H1 { s1 with heap := h' } := I1.kept (t' := s1.toks) hk
    refine ⟨s1.heap.objs.size + 1, [s1.heap.objs.size + 1, s1.heap.objs.size], _, _, H1, rfl, I2, turn_enumT (N := xs.length) (a := a) (e := s1.heap.objs.size + 1) (it := s1.heap.objs.size) (Nat.succ_ne_self _) (Nat.ne_of_gt (Nat.lt_succ_of_lt la)) (Nat.ne_of_lt la), ⟨Nat.zero_le _, ⟨.none, he⟩, ⟨_, hit, rfl, rfl⟩⟩, fun b hb => ?_, q⟩
    have e' : b = s1.heap.objs.size + 1 ∨ b = s1.heap.objs.size := by simpa using hb
    have hle : s1.heap.objs.size ≤ b := by
      rcases e' with z | z
      · rw [z]; exact Nat.le_add_right _ _
      · rw [z]; exact Nat.le_refl _
    exact I1.fpOk hle (I1.hok.fresh hle)
theorem wk_enumT {K : PySem.W.Frag} {F : Hp} {a : Addr} {xs : List V} {ds : List D} (h : SqT K F a xs) (hd : DnA K F xs ds) : Wk K (IteT K xs.length a) F (enD 0 ds) := fun i F2 H2 x1 x2 => by
  have hx := x1.trans x2
  have hl := hd.len
  refine ⟨fun d hi => ?_, fun hi => ?_⟩
  · rw [enD_get] at hi
    obtain ⟨d0, hi0, rfl⟩ := Option.map_eq_some_iff.mp hi
    replace hi := hi0
    obtain ⟨w, h1, h2⟩ := hd.get hi
    refine ⟨⟨(List.getElem?_eq_some_iff.mp h1).1, xs, w, Evl.ex_t hx h, rfl, h1⟩, fun x H3 y => ?_⟩
    obtain ⟨T, z, rfl, hT, rfl, y⟩ := y
    have := y xs (Evl.ex_t hx h)
    rw [h1] at this
    cases this
    rw [Nat.zero_add]
    exact pair_new x2 hT (.int _) (h2.mono x1)
  · rw [enD_get] at hi
    have := List.getElem?_eq_none_iff.mp (Option.map_eq_none_iff.mp hi)
    exact ⟨xs, Evl.ex_t hx h, rfl, by omega⟩
def mEnumT (m : M D) : M (List D) := fun e => (m e).bind fun p => match p.1 with
  | .tuple ds => .ok (enD 0 ds, p.2)
  | _ => .no
@[simp] theorem mEnumT_r (m : M D) (e : En) : mEnumT m e = (m e).bind fun p => match p.1 with
  | .tuple ds => .ok (enD 0 ds, p.2)
  | _ => .no := Eq.trans rfl rfl
section
variable {X : Cx} {ex : Expr} {p pos : Pos}
theorem pid_enumT {m : M D} {elts : List Expr} {kk : Nat} {tpos : Pos} (hg : Gl X "enumerate") (hm : X.mg "enumerate" = none) (h : PAd X [ex] (aCons m aNil)) (hs : starEach [ex] X.env = [(false, eval ex X.env)] := by rfl) : PId X (.Tuple elts kk tpos) (.Call (.Name "enumerate" p) [ex] [] pos) (mEnumT m) :=
  PIimp (pi_enumT hg hm h hs) fun σ H Q ⟨G, F, e, ds, e', r, hm, q⟩ => by
    obtain ⟨d, e1, h1, hm⟩ := bind_ok2 hm
    simp only at hm
    have h1' : aCons m aNil e = .ok ([d], e1) := by rw [aCons_r, h1]; rfl
    split at hm
    · cases hm
      refine ⟨G, F, e, _, _, r, h1', fun vs F' H' n hd => ?_⟩
      cases hd with
      | cons g t =>
        cases t
        obtain ⟨a, xs, q1, q2, q3⟩ := g.tuple_inv
        subst q1
        exact ⟨a, xs, rfl, Evl.ex_t n.r.fh q2, q _ F' H' n (wk_enumT q2 q3)⟩
    · cases hm
end
end DL

namespace DL
open PySem L2 PyProof.Rows
/-! ### a def that the module knows by a second name -/
section
variable {P : Program} {w : World} {K : PySem.W.Frag} {mg : Str → Option Value} {base : Heap}
structure At2 (K : PySem.W.Frag) (mg : Str → Option Value) (g x : Str) (st : Stmt) (ps : List Str) (f : Addr) (fd : FuncData) : Prop where
  fn : Fun K x x st f fd
  gl : mg g = some (.ref f)
  bi : Binds K fd ps []
theorem dfn_ok2 {g x : Str} {st : Stmt} {f : Addr} {fd : FuncData} {N ps : List Str} {k : Nat} {S : Sf} (A : At2 K mg g x st ps f fd) (Sc : FnScope N ps (defScope st)) (hN : ps.length ≤ N.length) (m : En → Out)
    (hb : ∀ (cdv : Value) (A : Around) (outer : List PySem.Env) (s : Shared) (H : Hp) (E : XK), Room k (A.deeper (envOfC x (defScope st) s.heap.objs.size f cdv)) → PDs (XX P w K mg base N x (defScope st) f cdv A outer s H E) (defBody st) m)
    (hS : ∀ cs c outs, S cs = .ok (c, outs) → cs.length = ps.length ∧ runD N.length m cs = .ok (c, outs)) : DFn P w K mg base g (k + 1) S :=
  ⟨f, fd, ps, fnD_ok A.fn Sc hN m hb hS, A.gl, A.fn.kp, A.bi⟩
end
end DL

namespace DL
open PySem L2 PyProof.Rows RT RZ
/-! ### methods of a text with arguments -/
def mSm (g : Str → List D → Rs D) (ma : M D) (ms : M (List D)) : M Ce := fun e => (ma e).bind fun p => match p.1 with
  | .str s => (ms p.2).bind fun q => (g s q.1).bind fun d => .ok (.f d, q.2)
  | _ => .no
@[simp] theorem mSm_r (g : Str → List D → Rs D) (ma : M D) (ms : M (List D)) (e : En) : mSm g ma ms e = (ma e).bind fun p => match p.1 with
  | .str s => (ms p.2).bind fun q => (g s q.1).bind fun d => .ok (.f d, q.2)
  | _ => .no := Eq.trans rfl rfl
def gLstrip (s : Str) : List D → Rs D
  | [.str b] => if s.length ≤ sizeLine then .ok (.str (Txt.lstripChars s b)) else .no
  | _ => .no
def gFind3 (s : Str) : List D → Rs D
  | [.str b, .int i] => .ok (.int (Txt.find3 s b i))
  | _ => .no
def gFind4 (s : Str) : List D → Rs D
  | [.str b, .int i, .int j] => .ok (.int (Txt.findIn s b i j))
  | _ => .no
section
variable {X : Cx} {pos : Pos} {ex eo : Expr} {es : List Expr}
theorem pn_sm {name : Str} {id : String} {rr : V → List V → Hp → VK → Prop} {g : Str → List D → Rs D} {apos : Pos} {ma : M D} {ms : M (List D)} (slot : Slot "str" name id) (hty : typeOf (.builtin id) = pure (.type "method_descriptor")) (rule : MtR X id rr)
    (hs : ∀ (F H : Hp) (s : Str) (ds : List D) (vs : List V) (d : D) (Q : VK), DnA X.K F vs ds → g s ds = .ok d → (∀ v, Dn X.K F v d → Q v H) → rr (.str s) vs H Q)
    (ho : PF X eo ma) (ha : PAd X (ex :: es) ms) (hbase : attributeBase eo name X.env (eval eo X.env) = eval eo X.env := by rfl)
    (hfew : ((backTo pos (starEach (ex :: es) X.env)).all (fun x => !x.1) && (backToKw pos (keywordEach [] X.env)).all (fun x => x.1.isSome)
      && decide ((ex :: es).length + ([] : List Keyword).length + (if ([] : List Keyword).isEmpty then 0 else 1) < 30)) = true := by rfl)
    (hline : (apos.endLine == pos.line) = true := by rfl) (hst : starEach (ex :: es) X.env = (false, eval ex X.env) :: starEach es X.env := by rfl) (hplain : (backTo pos (starEach es X.env)).any (·.1) = false := by rfl) :
    PN X (.Call (.Attribute eo name apos) (ex :: es) [] pos) (mSm g ma ms) :=
  PEimp (pe_bm PySem.F.plainAttrs_str slot hty rule ho ha hbase hfew hline hst hplain) fun σ H Q ⟨G, F, e, c, e', r, hm, q⟩ => by
  obtain ⟨d, e1, h1, hm⟩ := bind_ok2 hm
  dsimp only at hm
  cases d <;> first
    | (cases hm; done)
    | skip
  obtain ⟨ds, e2, h2, hm⟩ := bind_ok2 hm
  obtain ⟨d, h3, hm⟩ := Rs.bind_eq hm
  cases hm
  refine ⟨G, F, e, _, e1, r, h1, fun v F1 H1 n1 hv => ?_⟩
  cases hv.str_inv
  refine ⟨rfl, G, F1, e1, ds, _, n1.r, h2, fun vs F2 H2 n2 hds => ?_⟩
  exact hs F2 H2 _ ds vs d Q hds h3 fun v hv => q v F2 H2 (n1.trans n2) (.inl ⟨_, rfl, hv⟩)
theorem pn_lstrip {apos : Pos} {ma : M D} {ms : M (List D)} (ho : PF X eo ma) (ha : PAd X (ex :: es) ms) (hbase : attributeBase eo "lstrip" X.env (eval eo X.env) = eval eo X.env := by rfl)
    (hfew : ((backTo pos (starEach (ex :: es) X.env)).all (fun x => !x.1) && (backToKw pos (keywordEach [] X.env)).all (fun x => x.1.isSome)
      && decide ((ex :: es).length + ([] : List Keyword).length + (if ([] : List Keyword).isEmpty then 0 else 1) < 30)) = true := by rfl)
    (hline : (apos.endLine == pos.line) = true := by rfl) (hst : starEach (ex :: es) X.env = (false, eval ex X.env) :: starEach es X.env := by rfl) (hplain : (backTo pos (starEach es X.env)).any (·.1) = false := by rfl) :
    PN X (.Call (.Attribute eo "lstrip" apos) (ex :: es) [] pos) (mSm gLstrip ma ms) :=
  pn_sm PySem.F.slot_str_lstrip PySem.F.type_str_lstrip mt_lstripChars (fun F H s ds vs d Q hds hg q => by
    unfold gLstrip at hg
    split at hg
    · rename_i b
      obtain ⟨hz, hg⟩ := ite_ok hg
      cases hg
      cases hds with
      | cons h1 h2 =>
        cases h2
        cases h1.str_inv
        exact ⟨s, b, rfl, rfl, hz, q _ (.str _)⟩
    · cases hg) ho ha hbase hfew hline hst hplain
theorem pn_find3 {apos : Pos} {ma : M D} {ms : M (List D)} (ho : PF X eo ma) (ha : PAd X (ex :: es) ms) (hbase : attributeBase eo "find" X.env (eval eo X.env) = eval eo X.env := by rfl)
    (hfew : ((backTo pos (starEach (ex :: es) X.env)).all (fun x => !x.1) && (backToKw pos (keywordEach [] X.env)).all (fun x => x.1.isSome)
      && decide ((ex :: es).length + ([] : List Keyword).length + (if ([] : List Keyword).isEmpty then 0 else 1) < 30)) = true := by rfl)
    (hline : (apos.endLine == pos.line) = true := by rfl) (hst : starEach (ex :: es) X.env = (false, eval ex X.env) :: starEach es X.env := by rfl) (hplain : (backTo pos (starEach es X.env)).any (·.1) = false := by rfl) :
    PN X (.Call (.Attribute eo "find" apos) (ex :: es) [] pos) (mSm gFind3 ma ms) :=
  pn_sm PySem.F.slot_str_find PySem.F.type_str_find mt_find3 (fun F H s ds vs d Q hds hg q => by
    unfold gFind3 at hg
    split at hg
    · cases hg
      cases hds with
      | cons h1 h2 =>
        cases h2 with
        | cons h2 h3 =>
          cases h3
          cases h1.str_inv
          cases h2.int_inv
          exact ⟨s, _, _, rfl, rfl, q _ (.int _)⟩
    · cases hg) ho ha hbase hfew hline hst hplain
theorem pn_find4 {apos : Pos} {ma : M D} {ms : M (List D)} (ho : PF X eo ma) (ha : PAd X (ex :: es) ms) (hbase : attributeBase eo "find" X.env (eval eo X.env) = eval eo X.env := by rfl)
    (hfew : ((backTo pos (starEach (ex :: es) X.env)).all (fun x => !x.1) && (backToKw pos (keywordEach [] X.env)).all (fun x => x.1.isSome)
      && decide ((ex :: es).length + ([] : List Keyword).length + (if ([] : List Keyword).isEmpty then 0 else 1) < 30)) = true := by rfl)
    (hline : (apos.endLine == pos.line) = true := by rfl) (hst : starEach (ex :: es) X.env = (false, eval ex X.env) :: starEach es X.env := by rfl) (hplain : (backTo pos (starEach es X.env)).any (·.1) = false := by rfl) :
    PN X (.Call (.Attribute eo "find" apos) (ex :: es) [] pos) (mSm gFind4 ma ms) :=
  pn_sm PySem.F.slot_str_find PySem.F.type_str_find mt_find4 (fun F H s ds vs d Q hds hg q => by
    unfold gFind4 at hg
    split at hg
    · cases hg
      cases hds with
      | cons h1 h2 =>
        cases h2 with
        | cons h2 h3 =>
          cases h3 with
          | cons h3 h4 =>
            cases h4
            cases h1.str_inv
            cases h2.int_inv
            cases h3.int_inv
            exact ⟨s, _, _, _, rfl, rfl, q _ (.int _)⟩
    · cases hg) ho ha hbase hfew hline hst hplain
/-! ### replace of written texts -/
abbrev PNT (X : Cx) (e : Expr) (m : M Ce) : Prop := PET X e (tN X.K m)
theorem PETimp {ex : Expr} {t t' : TE} (h : PET X ex t) (hi : ∀ σ H Q, t' σ H Q → t σ H Q) : PET X ex t' := fun pins s σ H Q h0 I q => h pins s σ H Q h0 I (hi σ H Q q)
def mRepl (y z : Str) (m : M Ce) : M Ce := fun e => (m e).bind fun p => match p.1 with
  | .f (.str x) => if x.length + (x.length + 1) * z.length ≤ 16777216 then .ok (.f (.str (Txt.replace x y z)), p.2) else .no
  | _ => .no
@[simp] theorem mRepl_r (y z : Str) (m : M Ce) (e : En) : mRepl y z m e = (m e).bind fun p => match p.1 with
  | .f (.str x) => if x.length + (x.length + 1) * z.length ≤ 16777216 then .ok (.f (.str (Txt.replace x y z)), p.2) else .no
  | _ => .no := Eq.trans rfl rfl
theorem repl_imp {K : PySem.W.Frag} {y z : Str} {m : M Ce} {σ : L2.St} {H : Hp} {Q : VK} (h : tN K (mRepl y z m) σ H Q) : CwR.tReplC (tN K m) y z σ H Q := by
  obtain ⟨G, F, e, c, e', r, hm, q⟩ := h
  obtain ⟨c1, e1, h1, hm⟩ := bind_ok2 hm
  dsimp only at hm
  split at hm
  · rename_i x
    obtain ⟨hz, hm⟩ := ite_ok hm
    cases hm
    refine ⟨G, F, e, _, _, r, h1, fun v F1 H1 n1 hv => ?_⟩
    rcases hv with ⟨d, hd, hv⟩ | ⟨hio, a, o, xs, rfl, h⟩
    · cases hd
      cases hv.str_inv
      exact ⟨x, rfl, hz, q _ F1 H1 n1 (.inl ⟨_, rfl, .str _⟩)⟩
    · exact (h.2.2.2.1).elim
  · cases hm
theorem pnt_repl1 {apos : Pos} {y z : Str} {j k : Nat} {c0 c1 : Pos} {m : M Ce} (ho : PN X eo m) (hyz : (y == z) = false := by decide)
    (hst : starEach [.Constant (.str y) j c0, .Constant (.str z) k c1] X.env = [(false, eval (.Constant (.str y) j c0) X.env), (false, eval (.Constant (.str z) k c1) X.env)] := by rfl)
    (hbase : attributeBase eo "replace" X.env (eval eo X.env) = eval eo X.env := by rfl) (hline : (apos.endLine == pos.line) = true := by rfl) :
    PNT X (.Call (.Attribute eo "replace" apos) [.Constant (.str y) j c0, .Constant (.str z) k c1] [] pos) (mRepl y z m) :=
  PETimp (CwR.pet_replC ho hyz hst hbase hline) fun _ _ _ h => repl_imp h
theorem pnt_repl {apos : Pos} {y z : Str} {j k : Nat} {c0 c1 : Pos} {m : M Ce} (ho : PNT X eo m) (hyz : (y == z) = false := by decide)
    (hst : starEach [.Constant (.str y) j c0, .Constant (.str z) k c1] X.env = [(false, eval (.Constant (.str y) j c0) X.env), (false, eval (.Constant (.str z) k c1) X.env)] := by rfl)
    (hbase : attributeBase eo "replace" X.env (eval eo X.env) = eval eo X.env := by rfl) (hline : (apos.endLine == pos.line) = true := by rfl) :
    PNT X (.Call (.Attribute eo "replace" apos) [.Constant (.str y) j c0, .Constant (.str z) k c1] [] pos) (mRepl y z m) :=
  PETimp (CwR.pet_replT ho hyz hst hbase hline) fun _ _ _ h => repl_imp h
theorem pht_n {m : M Ce} (h : PNT X ex m) : PET X ex (tH X.K (mH m)) := PETimp h fun σ H Q ⟨G, F, e, d, e', r, hm, q⟩ => by
  obtain ⟨c, e1, h1, h2⟩ := bind_ok2 hm
  cases h2
  exact ⟨G, F, e, c, e1, r, h1, fun v F' H' n hn => q v F' H' n (hn.hat r n)⟩
/-- a written text first: behind it a token is out -/
theorem pe_strOp {c : Str} {j : Nat} {cp : Pos} {op : Operator} {r : R2} {tf : TE} (ho : OpR X (binaryOp op) r) (hb : PET X ex tf) : PE X (.BinOp (.Constant (.str c) j cp) op ex pos) (tOp r (tC (.str c)) tf) := by
  refine ⟨fun pins s σ H Q I h => ?_⟩
  refine wpAny_BinOp (Calls.Constant_str ?_)
  exact thn (hb pins { s with toks := s.toks + 1 } σ H _ (by show 1 ≤ s.toks + 1; omega) (I.tok _) h) fun u s2 ⟨y, H2, I2, r2, q2⟩ => ho pins s2 σ H2 (.str c) y _ u Q I2 ⟨_, rfl⟩ r2 q2
theorem pn_strOp {c : Str} {j : Nat} {cp : Pos} {op : Operator} {r : R2} {g : D → D → Rs Ce} {mb : M Ce} (ho : OpR X (binaryOp op) r) (hs : Snd2 X.K r g) (hb : PNT X ex mb) :
    PN X (.BinOp (.Constant (.str c) j cp) op ex pos) (m2 g (mH (mN (mC (.str c)))) (mH mb)) := PEimp (pe_strOp ho (pht_n hb)) fun σ H Q h => by
  obtain ⟨G, F, e, hd, e', rr, hm, q⟩ := op2 hs h
  cases hm
  exact q (.str c) F H (Nx.refl rr) ((show NAt X.K H F H (.f (.str c)) (.str c) from .inl ⟨_, rfl, .str c⟩).hat rr (Nx.refl rr))
/-! ### int(text) -/
def intSD : List D → Rs Ce
  | [.str a] => if a.length ≤ 640 then (match PySem.intText? a with | some n => .ok (.f (.int n)) | none => .no) else .no
  | _ => .no
theorem snd_intS {K : PySem.W.Frag} : SndL K (fun xs H Q => ∃ a n, xs = [.str a] ∧ PySem.intText? a = some n ∧ a.length ≤ 640 ∧ Q (.int n) H) intSD := fun F H xs ds c Q fh hx hg q => by
  unfold intSD at hg
  split at hg
  · rename_i a
    obtain ⟨hz, hg⟩ := ite_ok hg
    split at hg
    · rename_i n hn
      cases hg
      obtain ⟨x, rfl, h⟩ := hx.one (ds := [])
      rw [h.str]
      exact ⟨a, n, rfl, hn, hz, ret1 fh (.int _) rfl q⟩
    · cases hg
  · cases hg
end
/-! ### a dict of the module with text keys -/
structure KDat (K : PySem.W.Frag) (w : World) (mg : Str → Option Value) (x : Str) (kvs : List (Str × D)) (ms : List Str) : Prop where
  ok : ∃ a es n, mg x = some (.ref a) ∧ KDict K w a es n ∧ (∀ p ∈ kvs, ∃ u v, PySem.W.nsIn K a p.1 = some (some u) ∧ RelV v u ∧ ∀ F, Dn K F v p.2) ∧ ∀ z ∈ ms, PySem.W.nsIn K a z = some none
def mInK (b : Bool) (kvs : List (Str × D)) (ms : List Str) (ma : M D) : M Ce := fun e => (ma e).bind fun p => match p.1 with
  | .str z => if z ∈ kvs.map (·.1) then .ok (.f (.bool b), p.2) else if z ∈ ms then .ok (.f (.bool !b), p.2) else .no
  | _ => .no
@[simp] theorem mInK_r (b : Bool) (kvs : List (Str × D)) (ms : List Str) (ma : M D) (e : En) : mInK b kvs ms ma e = (ma e).bind fun p => match p.1 with
  | .str z => if z ∈ kvs.map (·.1) then .ok (.f (.bool b), p.2) else if z ∈ ms then .ok (.f (.bool !b), p.2) else .no
  | _ => .no := Eq.trans rfl rfl
def mIxK (kvs : List (Str × D)) (ma : M D) : M Ce := fun e => (ma e).bind fun p => match p.1 with
  | .str z => match kvs.find? (fun q => q.1 == z) with
    | some q => .ok (.f q.2, p.2)
    | none => .no
  | _ => .no
@[simp] theorem mIxK_r (kvs : List (Str × D)) (ma : M D) (e : En) : mIxK kvs ma e = (ma e).bind fun p => match p.1 with
  | .str z => match kvs.find? (fun q => q.1 == z) with
    | some q => .ok (.f q.2, p.2)
    | none => .no
  | _ => .no := Eq.trans rfl rfl
section
variable {X : Cx} {pos p : Pos} {ex : Expr} {x : Str} {kvs : List (Str × D)} {ms : List Str} {ma : M D}
theorem inK_imp {a : Addr} {b : Bool} {σ : L2.St} {H : Hp} {Q : VK} (h1 : ∀ p ∈ kvs, ∃ u v, PySem.W.nsIn X.K a p.1 = some (some u) ∧ RelV v u ∧ ∀ F, Dn X.K F v p.2) (h2 : ∀ z ∈ ms, PySem.W.nsIn X.K a z = some none) (h : tN X.K (mInK b kvs ms ma) σ H Q) :
    tOp (fun x y H Q => ∃ (z : Str) (r : Option Value), x = .str z ∧ y = .ref a ∧ PySem.W.nsIn X.K a z = some r ∧ Q (.bl (if b then r.isSome else !r.isSome)) H) (tF X.K ma) (tC (.ref a)) σ H Q := by
  obtain ⟨G, F, e, c, e', r, hm, q⟩ := h
  obtain ⟨d, e1, g1, hm⟩ := bind_ok2 hm
  dsimp only at hm
  cases d <;> first
    | (cases hm; done)
    | skip
  rename_i z
  refine ⟨G, F, e, _, e1, r, g1, fun v F1 H1 n1 hv => ?_⟩
  cases hv.str_inv
  by_cases hz : z ∈ kvs.map (·.1)
  · dsimp only at hm
    rw [if_pos hz] at hm
    cases hm
    obtain ⟨kv, hk, rfl⟩ := List.mem_map.mp hz
    obtain ⟨u, v, k1, _⟩ := h1 kv hk
    refine ⟨_, some u, rfl, rfl, k1, q _ F1 H1 n1 (.inl ⟨_, rfl, ?_⟩)⟩
    cases b <;> exact .bl _
  · dsimp only at hm
    rw [if_neg hz] at hm
    obtain ⟨hz2, hm⟩ := ite_ok hm
    cases hm
    refine ⟨_, none, rfl, rfl, h2 z hz2, q _ F1 H1 n1 (.inl ⟨_, rfl, ?_⟩)⟩
    cases b <;> exact .bl _
theorem pn_inK (k : KDat X.K X.w X.mg x kvs ms) (hg : Gl X x) (ha : PF X ex ma) (hdb : (x == ("__debug__" : Str)) = false := by decide) (hm : behindInMarks .In (.Name x p) = false := by rfl) : PN X (.Compare ex [.In] [.Name x p] pos) (mInK true kvs ms ma) := by
  obtain ⟨a, es, n, k1, k2, k3, k4⟩ := k.ok
  exact PEimp (pe_cmpR (op_in_kd k2) ha (pe_glob (v := .ref a) hg k1 rfl hdb) hm) fun σ H Q h => inK_imp (b := true) k3 k4 h
theorem pn_notInK (k : KDat X.K X.w X.mg x kvs ms) (hg : Gl X x) (ha : PF X ex ma) (hdb : (x == ("__debug__" : Str)) = false := by decide) (hm : behindInMarks .NotIn (.Name x p) = false := by rfl) : PN X (.Compare ex [.NotIn] [.Name x p] pos) (mInK false kvs ms ma) := by
  obtain ⟨a, es, n, k1, k2, k3, k4⟩ := k.ok
  exact PEimp (pe_cmpR (op_notIn_kd k2) ha (pe_glob (v := .ref a) hg k1 rfl hdb) hm) fun σ H Q h => inK_imp (b := false) k3 k4 h
theorem ptd_inK (k : KDat X.K X.w X.mg x kvs ms) (hg : Gl X x) (ha : PF X ex ma) (hdb : (x == ("__debug__" : Str)) = false := by decide) (hm : behindInMarks .In (.Name x p) = false := by rfl) : PTd X (.Compare ex [.In] [.Name x p] pos) (mBool (mInK true kvs ms ma)) := by
  obtain ⟨a, es, n, k1, k2, k3, k4⟩ := k.ok
  exact PTimp (pt_cmpR (op_in_kd k2) ha (pe_glob (v := .ref a) hg k1 rfl hdb) hm) fun σ H Q h => inK_imp (b := true) k3 k4 (bool_test h)
theorem ptd_notInK (k : KDat X.K X.w X.mg x kvs ms) (hg : Gl X x) (ha : PF X ex ma) (hdb : (x == ("__debug__" : Str)) = false := by decide) (hm : behindInMarks .NotIn (.Name x p) = false := by rfl) : PTd X (.Compare ex [.NotIn] [.Name x p] pos) (mBool (mInK false kvs ms ma)) := by
  obtain ⟨a, es, n, k1, k2, k3, k4⟩ := k.ok
  exact PTimp (pt_cmpR (op_notIn_kd k2) ha (pe_glob (v := .ref a) hg k1 rfl hdb) hm) fun σ H Q h => inK_imp (b := false) k3 k4 (bool_test h)
theorem pn_ixK (k : KDat X.K X.w X.mg x kvs ms) (hg : Gl X x) (ha : PF X ex ma) (hp : PlainIx ex) (hdb : (x == ("__debug__" : Str)) = false := by decide) : PN X (.Subscript (.Name x p) ex pos) (mIxK kvs ma) := by
  obtain ⟨a, es, n, k1, k2, k3, k4⟩ := k.ok
  refine PEimp (pe_ix ix_kdict (pe_glob (v := .ref a) hg k1 rfl hdb) ha hp) fun σ H Q h => ?_
  obtain ⟨G, F, e, c, e', r, hm, q⟩ := h
  obtain ⟨d, e1, g1, hm⟩ := bind_ok2 hm
  dsimp only at hm
  cases d <;> first
    | (cases hm; done)
    | skip
  rename_i z
  dsimp only at hm
  split at hm
  · rename_i kv hk
    cases hm
    have h2 := List.find?_some hk
    have hz : kv.1 = z := by simpa using h2
    obtain ⟨u, v, g2, g3, g4⟩ := k3 kv (List.mem_of_find?_eq_some hk)
    refine ⟨G, F, e, _, _, r, g1, fun v' F1 H1 n1 hv => ?_⟩
    cases hv.str_inv
    rw [hz] at g2
    exact ⟨a, z, v, rfl, rfl, ⟨es, n, u, k2.at_, k2.lit, g2, g3⟩, q v F1 H1 n1 (.inl ⟨_, rfl, g4 F1⟩)⟩
  · cases hm
/-- a text of the module -/
theorem pf_kstr {c : Str} (hg : Gl X x) (h : ∃ t, X.mg x = some (.str c t)) (hdb : (x == ("__debug__" : Str)) = false := by decide) : PF X (.Name x pos) (mC (.str c)) := by
  obtain ⟨t, hm⟩ := h
  exact pf_c (pe_glob (v := .str c) hg hm ⟨t, rfl⟩ hdb) fun F => .str c
end
end DL

/-! texts as lists of signs: places of one sign, replace of one sign -/
namespace TX
open PySem PySem.Builtin PySem.Builtin.Str PySem.StrLaws
abbrev one (c : Nat) : Str := ⟨#[c]⟩
theorem occ1_loop (s : Str) (c hi limit : Nat) (hh : hi ≤ s.length) : ∀ (n lo : Nat) (found : Array Nat) (free : Nat), free ≤ lo → found.size ≤ limit →
    (forIn (List.range' lo n) (found, free) (occBody s (one c) hi limit)).run.fst.toList = found.toList ++ ((List.range' lo n).filter (fun i => decide (i + 1 ≤ hi) && (s.cps.toList[i]? == some c))).take (limit - found.size)
  | 0, lo, found, free, _, _ => by simp
  | n + 1, lo, found, free, hf, hl => by
    rw [List.range'_succ, List.forIn_cons]
    unfold occBody
    have so := subAt_one s c lo
    have ln : (one c).length = 1 := rfl
    rw [ln] at so
    by_cases hc : lo + 1 ≤ hi ∧ s.cps.toList[lo]? = some c
    · have sa := (so.mpr hc.2).2
      have fl : (decide (lo + 1 ≤ hi) && (s.cps.toList[lo]? == some c)) = true := by simp [hc.1, hc.2]
      by_cases hs : found.size < limit
      · rw [if_pos ⟨⟨⟨hs, hf⟩, by rw [ln]; exact hc.1⟩, sa⟩]
        show (forIn (List.range' (lo + 1) n) (found.push lo, lo + (one c).length) (occBody s (one c) hi limit)).run.fst.toList = _
        rw [occ1_loop s c hi limit hh n (lo + 1) _ _ (by rw [ln]; omega) (by rw [Array.size_push]; omega), List.filter_cons, if_pos fl]
        obtain ⟨k, hk⟩ : ∃ k, limit - found.size = k + 1 := ⟨limit - found.size - 1, by omega⟩
        rw [hk, List.take_succ_cons, Array.size_push, show limit - (found.size + 1) = k by omega]
        simp
      · have e : limit - found.size = 0 := by omega
        rw [if_neg (fun z => hs z.1.1.1)]
        show (forIn (List.range' (lo + 1) n) (found, free) (occBody s (one c) hi limit)).run.fst.toList = _
        rw [occ1_loop s c hi limit hh n (lo + 1) _ _ (by omega) hl, e]
        simp
    · have fl : (decide (lo + 1 ≤ hi) && (s.cps.toList[lo]? == some c)) = false := by
        rw [Bool.and_eq_false_iff]
        by_cases h1 : lo + 1 ≤ hi
        · exact .inr (by simpa using fun h => hc ⟨h1, h⟩)
        · exact .inl (by simpa using h1)
      rw [if_neg (fun z => hc ⟨by have := z.1.2; rw [ln] at this; exact this, so.mp ⟨by have := z.1.2; rw [ln] at this; omega, z.2⟩⟩)]
      show (forIn (List.range' (lo + 1) n) (found, free) (occBody s (one c) hi limit)).run.fst.toList = _
      rw [occ1_loop s c hi limit hh n (lo + 1) _ _ (by omega) hl, List.filter_cons, if_neg (by rw [fl]; decide)]
theorem occ1 (s : Str) (c lo hi limit : Nat) (hh : hi ≤ s.length) : occurrences s (one c) lo hi limit = ((List.range' lo (hi + 1 - lo)).filter (fun i => decide (i + 1 ≤ hi) && (s.cps.toList[i]? == some c))).take limit := by
  rw [occ_eq, occ1_loop s c hi limit hh _ _ _ _ (Nat.le_refl _) (by simp)]
  simp
/-- the first one -/
theorem filter_none {l : List Nat} {c hi : Nat} : ∀ (n lo : Nat), (∀ i, lo ≤ i → i < lo + n → l[i]? ≠ some c) → (List.range' lo n).filter (fun i => decide (i + 1 ≤ hi) && (l[i]? == some c)) = [] := fun n lo h => by
  rw [List.filter_eq_nil_iff]
  intro i hi
  obtain ⟨k, hk, rfl⟩ := List.mem_range'.mp hi
  have := h (lo + 1 * k) (by omega) (by omega)
  exact fun z => this (eq_of_beq (Bool.and_eq_true_iff.mp z).2)
theorem occ_first1 {s : Str} {c lo hi k : Nat} (hh : hi ≤ s.length) (h1 : lo ≤ k) (h2 : k < hi) (hk : s.cps.toList[k]? = some c) (hn : ∀ i, lo ≤ i → i < k → s.cps.toList[i]? ≠ some c) : occurrences s (one c) lo hi 1 = [k] := by
  rw [occ1 s c lo hi 1 hh]
  obtain ⟨a, ha⟩ : ∃ a, k = lo + a := ⟨k - lo, by omega⟩
  obtain ⟨b, hb⟩ : ∃ b, hi + 1 - lo = a + (b + 1) := ⟨hi - k, by omega⟩
  rw [hb, ← List.range'_append_1, List.filter_append, filter_none a lo (fun i i1 i2 => hn i i1 (by omega)), List.nil_append, List.range'_succ, List.filter_cons, ← ha, if_pos (by simp [hk]; omega)]
  rfl
theorem occ_none1 {s : Str} {c lo hi : Nat} (hh : hi ≤ s.length) (hn : ∀ i, lo ≤ i → i < hi → s.cps.toList[i]? ≠ some c) : occurrences s (one c) lo hi 1 = [] := by
  rw [occ1 s c lo hi 1 hh]
  have : (List.range' lo (hi + 1 - lo)).filter (fun i => decide (i + 1 ≤ hi) && (s.cps.toList[i]? == some c)) = [] := by
    rw [List.filter_eq_nil_iff]
    intro i hi'
    obtain ⟨k, hk, rfl⟩ := List.mem_range'.mp hi'
    by_cases h : lo + 1 * k < hi
    · have := hn (lo + 1 * k) (by omega) h
      exact fun z => this (eq_of_beq (Bool.and_eq_true_iff.mp z).2)
    · exact fun z => h (by have := of_decide_eq_true (Bool.and_eq_true_iff.mp z).1; omega)
  rw [this]
  rfl
theorem len_cps (s : Str) : s.length = s.cps.toList.length := by show s.cps.size = _; simp
theorem from_nat {n k : Nat} (h : k ≤ n) : fromIndex n (k : Int) = k := by
  unfold fromIndex
  rw [if_neg (by omega)]
  omega
theorem find3_at {s : Str} {pre mid post : List Nat} {c : Nat} (h : s.cps.toList = pre ++ (mid ++ c :: post)) (hm : c ∉ mid) : Txt.find3 s (one c) (pre.length : Int) = ((pre.length + mid.length : Nat) : Int) := by
  have hl := len_cps s
  rw [h] at hl
  simp only [List.length_append, List.length_cons] at hl
  unfold Txt.find3
  rw [from_nat (by omega), occ_first1 (k := pre.length + mid.length) (Nat.le_refl _) (by omega) (by omega)]
  · rw [h, List.getElem?_append_right (by omega), Nat.add_sub_cancel_left, List.getElem?_append_right (by omega), Nat.sub_self]
    rfl
  · intro i i1 i2 z
    rw [h, List.getElem?_append_right i1, List.getElem?_append_left (by omega)] at z
    exact hm (List.mem_of_getElem? z)
theorem to_nat {n k : Nat} (h : k ≤ n) : toIndexW n (k : Int) = k := by
  unfold toIndexW
  omega
theorem findIn_at {s : Str} {pre mid post : List Nat} {c hi : Nat} (h : s.cps.toList = pre ++ (mid ++ c :: post)) (hm : c ∉ mid) (h1 : pre.length + mid.length < hi) (h2 : hi ≤ s.length) : Txt.findIn s (one c) (pre.length : Int) (hi : Int) = ((pre.length + mid.length : Nat) : Int) := by
  have hl := len_cps s
  rw [h] at hl
  simp only [List.length_append, List.length_cons] at hl
  unfold Txt.findIn
  rw [from_nat (by omega), to_nat h2, occ_first1 (k := pre.length + mid.length) h2 (by omega) (by omega)]
  · rw [h, List.getElem?_append_right (by omega), Nat.add_sub_cancel_left, List.getElem?_append_right (by omega), Nat.sub_self]
    rfl
  · intro i i1 i2 z
    rw [h, List.getElem?_append_right i1, List.getElem?_append_left (by omega)] at z
    exact hm (List.mem_of_getElem? z)
theorem findIn_no {s : Str} {pre mid post : List Nat} {c : Nat} (h : s.cps.toList = pre ++ (mid ++ post)) (hm : c ∉ mid) : Txt.findIn s (one c) (pre.length : Int) ((pre.length + mid.length : Nat) : Int) = -1 := by
  have hl := len_cps s
  rw [h] at hl
  simp only [List.length_append] at hl
  unfold Txt.findIn
  rw [from_nat (by omega), to_nat (by omega), occ_none1 (by omega)]
  intro i i1 i2 z
  rw [h, List.getElem?_append_right i1, List.getElem?_append_left (by omega)] at z
  exact hm (List.mem_of_getElem? z)
/-! ### replace of one sign -/
def rep1 (c : Nat) (z : List Nat) (l : List Nat) : List Nat := l.flatMap fun a => if a = c then z else [a]
def P (s : Str) : Nat → List Nat → List Str
  | a, [] => [strSub s a s.length]
  | a, k :: ks => strSub s a k :: P s (k + 1) ks
theorem P_eq (s : Str) : ∀ (cuts : List Nat) (a : Nat), ((a :: cuts.map (· + 1)).zip (cuts ++ [s.length])).map (fun (p : Nat × Nat) => strSub s p.1 p.2) = P s a cuts
  | [], a => rfl
  | k :: ks, a => by
    show strSub s a k :: (((k + 1) :: ks.map (· + 1)).zip (ks ++ [s.length])).map (fun (p : Nat × Nat) => strSub s p.1 p.2) = _
    rw [P_eq s ks (k + 1)]
    rfl
def G (z l : List Nat) : Nat → List Nat → List Nat
  | a, [] => l.drop a
  | a, k :: ks => (l.take k).drop a ++ z ++ G z l (k + 1) ks
theorem sub_list (s : Str) (a k : Nat) : (strSub s a k).cps.toList = (s.cps.toList.take k).drop a := by
  show (s.cps.extract a k).toList = _
  rw [Array.toList_extract, List.extract_eq_drop_take, List.drop_take]
theorem fold_list (z : Str) : ∀ (ps : List Str) (a : Array Nat), (ps.foldl (fun acc p => acc ++ z.cps ++ p.cps) a).toList = a.toList ++ ps.flatMap fun p => z.cps.toList ++ p.cps.toList
  | [], a => by simp
  | p :: ps, a => by
    rw [List.foldl_cons, fold_list z ps]
    simp
theorem glued_G (s z : Str) : ∀ (cuts : List Nat) (a : Nat), (glued z (P s a cuts)).cps.toList = G z.cps.toList s.cps.toList a cuts
  | [], a => by
    show (strSub s a s.length).cps.toList = _
    rw [sub_list, len_cps, List.take_length]
    rfl
  | k :: ks, a => by
    show ((P s (k + 1) ks).foldl (fun acc p => acc ++ z.cps ++ p.cps) (strSub s a k).cps).toList = _
    rw [fold_list, sub_list]
    have ih := glued_G s z ks (k + 1)
    show _ = (s.cps.toList.take k).drop a ++ z.cps.toList ++ G z.cps.toList s.cps.toList (k + 1) ks
    rw [← ih, List.append_assoc]
    congr 1
    cases ks with
    | nil => simp [P, glued]
    | cons j js =>
      show _ = z.cps.toList ++ ((P s (j + 1) js).foldl (fun acc p => acc ++ z.cps ++ p.cps) (strSub s (k + 1) j).cps).toList
      rw [fold_list]
      simp [P]
theorem G_rep {z l : List Nat} {c : Nat} : ∀ (n b a : Nat), a ≤ b → l.length ≤ b + n → (∀ i, a ≤ i → i < b → l[i]? ≠ some c) →
    G z l a ((List.range' b n).filter fun i => decide (i + 1 ≤ l.length) && (l[i]? == some c)) = (l.take b).drop a ++ rep1 c z (l.drop b)
  | 0, b, a, ab, hl, hn => by
    simp only [List.range'_zero, List.filter_nil]
    show l.drop a = _
    rw [List.take_of_length_le (by omega), List.drop_of_length_le (i := b) (by omega)]
    simp [rep1]
  | n + 1, b, a, ab, hl, hn => by
    rw [List.range'_succ, List.filter_cons]
    rcases Nat.lt_or_ge b l.length with hb | hb
    · have hd : l.drop b = l[b] :: l.drop (b + 1) := List.drop_eq_getElem_cons hb
      by_cases e : l[b] = c
      · rw [if_pos (by rw [List.getElem?_eq_getElem hb, e]; simp; omega)]
        show (l.take b).drop a ++ z ++ G z l (b + 1) _ = _
        rw [G_rep n (b + 1) (b + 1) (Nat.le_refl _) (by omega) (fun i i1 i2 => by omega), hd, List.append_assoc]
        congr 1
        rw [List.drop_of_length_le (by rw [List.length_take]; omega), List.nil_append]
        show z ++ rep1 c z (l.drop (b + 1)) = rep1 c z (l[b] :: l.drop (b + 1))
        unfold rep1
        rw [List.flatMap_cons, if_pos e]
      · rw [if_neg (by simp [hb, e]), G_rep n (b + 1) a (by omega) (by omega) (fun i i1 i2 z => by
          rcases Nat.lt_or_ge i b with q | q
          · exact hn i i1 q z
          · obtain rfl : i = b := by omega
            rw [List.getElem?_eq_getElem hb] at z
            exact e (Option.some.inj z)), hd]
        have : (l.take (b + 1)).drop a = (l.take b).drop a ++ [l[b]] := by
          rw [List.take_succ_eq_append_getElem hb, List.drop_append_of_le_length (by rw [List.length_take]; omega)]
        rw [this, List.append_assoc]
        congr 1
        show [l[b]] ++ rep1 c z (l.drop (b + 1)) = rep1 c z (l[b] :: l.drop (b + 1))
        unfold rep1
        rw [List.flatMap_cons, if_neg e]
    · rw [if_neg (by simp; omega), G_rep n (b + 1) a (by omega) (by omega) (fun i i1 i2 z => by
        rcases Nat.lt_or_ge i b with q | q
        · exact hn i i1 q z
        · rw [List.getElem?_eq_none (by omega)] at z
          cases z), List.take_of_length_le (i := b + 1) (by omega), List.take_of_length_le (i := b) (by omega), List.drop_of_length_le (i := b + 1) (by omega), List.drop_of_length_le (i := b) (by omega)]
theorem rep1_none {c : Nat} {z : List Nat} : ∀ l : List Nat, (∀ i : Nat, l[i]? ≠ some c) → rep1 c z l = l
  | [], _ => rfl
  | a :: l, h => by
    have h0 := h 0
    have e : ¬ a = c := fun q => h0 (by simp [q])
    have ih := rep1_none (z := z) l fun i => by have := h (i + 1); simpa using this
    unfold rep1 at *
    rw [List.flatMap_cons, ih, if_neg e]
    rfl
theorem replace1 (x z : Str) (c : Nat) : (Txt.replace x (one c) z).cps.toList = rep1 c z.cps.toList x.cps.toList := by
  have ho := occ1 x c 0 x.length (x.length + 1) (Nat.le_refl _)
  have hln := len_cps x
  have hp : (fun i => decide (i + 1 ≤ x.length) && (x.cps.toList[i]? == some c)) = fun i => decide (i + 1 ≤ x.cps.toList.length) && (x.cps.toList[i]? == some c) := by rw [hln]
  have hg := G_rep (z := z.cps.toList) (l := x.cps.toList) (c := c) (x.length + 1) 0 0 (Nat.le_refl _) (by omega) (fun i _ i2 => by omega)
  rw [hp, Nat.sub_zero, List.take_of_length_le (by
    have := List.length_filter_le (fun i => decide (i + 1 ≤ x.cps.toList.length) && (x.cps.toList[i]? == some c)) (List.range' 0 (x.length + 1))
    rw [List.length_range'] at this
    exact this)] at ho
  simp only [List.take_zero, List.drop_nil, List.nil_append, List.drop_zero] at hg
  unfold Txt.replace
  by_cases he : (occurrences x (one c) 0 x.length (x.length + 1)).isEmpty = true
  · rw [if_pos (by rw [he]; rfl)]
    rw [ho, List.isEmpty_iff, List.filter_eq_nil_iff] at he
    exact (rep1_none _ fun i z => by
      have hi : i < x.cps.toList.length := (List.getElem?_eq_some_iff.mp z).1
      exact he i (List.mem_range'.mpr ⟨i, by omega, by omega⟩) (by rw [z, decide_eq_true (by omega)]; simp)).symm
  · have e1 : ((one c).length == 0 && z.length == 0) = false := rfl
    rw [e1, Bool.or_false, if_neg he, ho, ← hg]
    show (glued z ((((0 :: _).zip (_ ++ [x.length])).map fun (p : Nat × Nat) => strSub x p.1 p.2))).cps.toList = _
    have := P_eq x ((List.range' 0 (x.length + 1)).filter fun i => decide (i + 1 ≤ x.cps.toList.length) && (x.cps.toList[i]? == some c)) 0
    exact (congrArg (fun q => (glued z q).cps.toList) this).trans (glued_G x z _ 0)
end TX

namespace TX
open PySem PySem.Builtin PySem.Builtin.Str PySem.StrLaws
/-! ### the signs that are written otherwise -/
def escC (a : Nat) : List Nat := if a = 92 then [92, 92] else if a = 34 then [92, 34] else if a = 10 then [92, 110] else [a]
def esc (l : List Nat) : List Nat := l.flatMap escC
theorem rep1_cons (c : Nat) (z : List Nat) (a : Nat) (l : List Nat) : rep1 c z (a :: l) = (if a = c then z else [a]) ++ rep1 c z l := by
  unfold rep1
  rw [List.flatMap_cons]
theorem rep1_app (c : Nat) (z : List Nat) (u v : List Nat) : rep1 c z (u ++ v) = rep1 c z u ++ rep1 c z v := by
  unfold rep1
  rw [List.flatMap_append]
theorem esc_cons (a : Nat) (l : List Nat) : esc (a :: l) = escC a ++ esc l := by
  unfold esc
  rw [List.flatMap_cons]
theorem esc_app (u v : List Nat) : esc (u ++ v) = esc u ++ esc v := by
  unfold esc
  rw [List.flatMap_append]
theorem esc3 : ∀ l : List Nat, rep1 10 [92, 110] (rep1 34 [92, 34] (rep1 92 [92, 92] l)) = esc l
  | [] => rfl
  | a :: l => by
    rw [rep1_cons 92, rep1_app 34, rep1_app 10, esc3 l, esc_cons]
    congr 1
    unfold escC
    by_cases h1 : a = 92
    · subst h1
      decide
    · rw [if_neg h1, if_neg h1]
      by_cases h2 : a = 34
      · subst h2
        decide
      · rw [if_neg h2]
        by_cases h3 : a = 10
        · subst h3
          decide
        · rw [if_neg h3]
          simp [rep1, h2, h3]
theorem s92 : Str.ofString "\\" = one 92 := by decide +kernel
theorem s34 : Str.ofString "\"" = one 34 := by decide +kernel
theorem s10 : Str.ofString "\n" = one 10 := by decide +kernel
theorem replaced (x : Str) : (Txt.replace (Txt.replace (Txt.replace x "\\" "\\\\") "\"" "\\\"") "\n" "\\n").cps.toList = esc x.cps.toList := by
  rw [show (("\\" : String) : Str) = one 92 from s92, show (("\"" : String) : Str) = one 34 from s34, show (("\n" : String) : Str) = one 10 from s10, replace1, replace1, replace1]
  exact esc3 _
theorem esc_len : ∀ l : List Nat, l.length ≤ (esc l).length ∧ (esc l).length ≤ 2 * l.length
  | [] => by simp [esc]
  | a :: l => by
    have ih := esc_len l
    have h : 1 ≤ (escC a).length ∧ (escC a).length ≤ 2 := by
      unfold escC
      split
      · simp
      · split
        · simp
        · split <;> simp
    rw [esc_cons, List.length_append, List.length_cons]
    omega
/-- a text up to the first sign that is written otherwise -/
def Spec (c : Nat) : Prop := c = 92 ∨ c = 34 ∨ c = 10
theorem esc_plain {l : List Nat} (h : ∀ c ∈ l, ¬ Spec c) : esc l = l := by
  induction l with
  | nil => rfl
  | cons a l ih =>
    rw [esc_cons, ih fun c hc => h c (List.mem_cons_of_mem _ hc)]
    have ha := h a List.mem_cons_self
    unfold Spec at ha
    unfold escC
    rw [if_neg (by omega), if_neg (by omega), if_neg (by omega)]
    rfl
theorem split_plain : ∀ l : List Nat, (∀ c ∈ l, ¬ Spec c) ∨ ∃ p c r, l = p ++ c :: r ∧ (∀ c ∈ p, ¬ Spec c) ∧ Spec c
  | [] => .inl fun c hc => by simp at hc
  | a :: l => by
    by_cases h : a = 92 ∨ a = 34 ∨ a = 10
    · exact .inr ⟨[], a, l, rfl, fun c hc => by simp at hc, h⟩
    · rcases split_plain l with q | ⟨p, c, r, rfl, q1, q2⟩
      · refine .inl fun c hc => ?_
        rcases List.mem_cons.mp hc with rfl | z
        · exact h
        · exact q c z
      · refine .inr ⟨a :: p, c, r, rfl, fun d hd => ?_, q2⟩
        rcases List.mem_cons.mp hd with rfl | z
        · exact h
        · exact q1 d z
/-- no raw quote-free new line in what is written -/
theorem esc_no10 (l : List Nat) : 10 ∉ esc l := by
  unfold esc
  rw [List.mem_flatMap]
  rintro ⟨a, _, h⟩
  unfold escC at h
  split at h
  · simp at h
  · split at h
    · simp at h
    · split at h
      · simp at h
      · rename_i h3
        exact h3 (List.mem_singleton.mp h).symm
/-! ### digits -/
theorem takeW {p : Nat → Bool} : ∀ (ds post : List Nat), (∀ c ∈ ds, p c = true) → (∀ c, post.head? = some c → p c = false) → (ds ++ post).takeWhile p = ds
  | [], [], _, _ => rfl
  | [], c :: r, _, h2 => by rw [List.nil_append, List.takeWhile_cons, if_neg (by rw [h2 c rfl]; decide)]
  | d :: ds, post, h1, h2 => by
    rw [List.cons_append, List.takeWhile_cons, if_pos (h1 d List.mem_cons_self), takeW ds post (fun c hc => h1 c (List.mem_cons_of_mem _ hc)) h2]
theorem stripDig {x y : Str} {ds post : List Nat} (h : x.cps.toList = ds ++ post) (h1 : ∀ c ∈ ds, y.cps.contains c = true) (h2 : ∀ c, post.head? = some c → y.cps.contains c = false) : (Txt.lstripChars x y).length = post.length := by
  have hl : x.length = ds.length + post.length := by rw [len_cps, h, List.length_append]
  have tw : ((x.cps.toList.takeWhile y.cps.contains)).length = ds.length := by
    rw [h]
    have := takeW (p := y.cps.contains) ds post h1 h2
    rw [this]
  have lo : stripLo y.cps.contains true x = ds.length := tw
  unfold Txt.lstripChars Txt.stripBy
  by_cases he : stripSame y.cps.contains true false x = true
  · rw [if_pos he]
    unfold stripSame at he
    rw [lo] at he
    have := eq_of_beq (Bool.and_eq_true_iff.mp he).1
    omega
  · rw [if_neg he]
    unfold stripped
    rw [lo]
    show (strSub x ds.length x.length).length = _
    rw [len_cps, sub_list, List.length_drop, List.length_take, ← len_cps]
    omega
end TX

namespace TX
open PySem PySem.Builtin PySem.Builtin.Str PySem.StrLaws PyProof.Rows TL
/-! ### slices -/
theorem slice_list {x : Str} {a b : Nat} (h : a ≤ b) (ha : a ≤ x.length) : (Txt.slice x (some (a : Int)) (some (b : Int))).cps.toList = (x.cps.toList.take b).drop a := by
  have key : ∀ c : Nat, a ≤ c → c ≤ x.length → (Txt.slice x (some (a : Int)) (some (c : Int))).cps.toList = (x.cps.toList.take c).drop a := fun c h1 h2 => by
    have := slice_closes (x := x) (i := (a : Int)) (j := (c : Int)) ⟨by omega, by omega, by rw [← len_cps]; omega⟩
    rw [eq_of_beq this]
    show (x.cps.toList.drop (a : Int).toNat).take ((c : Int) - (a : Int)).toNat = _
    rw [Int.toNat_natCast, show ((c : Int) - (a : Int)).toNat = c - a by omega, List.drop_take]
  rcases Nat.le_total b x.length with q | q
  · exact key b h q
  · have e : Txt.slice x (some (a : Int)) (some (b : Int)) = Txt.slice x (some (a : Int)) (some (x.length : Int)) := by
      have a1 : ¬ (b : Int) < 0 := by omega
      have a2 : ¬ ((x.length : Int) < 0) := by omega
      have e1 : max (0 : Int) (min (b : Int) (x.length : Int)) = x.length := by omega
      have e2 : max (0 : Int) (min (x.length : Int) (x.length : Int)) = x.length := by omega
      unfold Txt.slice
      have : strSliceIndices (some (a : Int)) (some (b : Int)) 1 x.length = strSliceIndices (some (a : Int)) (some (x.length : Int)) 1 x.length := by
        simp [strSliceIndices, a1, a2, e1, e2]
      rw [this]
    rw [e, key x.length ha (Nat.le_refl _), len_cps, List.take_length, List.take_of_length_le (by rw [← len_cps]; exact q)]
theorem str_ext {a b : Str} (h : a.cps.toList = b.cps.toList) : a = b := by
  cases a; cases b
  congr 1
  exact Array.toList_inj.mp h
/-- the sign at a place -/
theorem sign_at {x : Str} {pre post : List Nat} {c : Nat} (h : x.cps.toList = pre ++ c :: post) : Txt.slice x (some (pre.length : Int)) (some ((pre.length + 1 : Nat) : Int)) = one c := by
  refine str_ext ?_
  rw [slice_list (by omega) (by rw [len_cps, h]; simp), h]
  simp [List.take_append, List.drop_append]
theorem sign_end {x : Str} : (Txt.slice x (some (x.length : Int)) (some ((x.length + 1 : Nat) : Int))) = ⟨#[]⟩ := by
  refine str_ext ?_
  rw [slice_list (by omega) (Nat.le_refl _), List.take_of_length_le (by rw [← len_cps]; omega), List.drop_of_length_le (by rw [← len_cps]; omega)]
theorem cut_at {x : Str} {pre mid post : List Nat} (h : x.cps.toList = pre ++ (mid ++ post)) : (Txt.slice x (some (pre.length : Int)) (some ((pre.length + mid.length : Nat) : Int))).cps.toList = mid := by
  rw [slice_list (by omega) (by rw [len_cps, h]; simp), h]
  simp [List.take_append, List.drop_append]
/-! ### the text of an int -/
def itx (i : Int) : List Nat := if i < 0 then 45 :: numL i.natAbs else numL i.natAbs
theorem app_list (s t : String) : (Str.ofString (s ++ t)).cps.toList = (Str.ofString s).cps.toList ++ (Str.ofString t).cps.toList := by
  rw [Str.ofString_eq_toList, Str.ofString_eq_toList, Str.ofString_eq_toList]
  simp
theorem itx_eq (i : Int) : (Str.ofString (toString i)).cps.toList = itx i := by
  unfold itx
  cases i with
  | ofNat n =>
    rw [if_neg (by show ¬ ((n : Int) < 0); omega)]
    exact tl_num n
  | negSucc n =>
    rw [if_pos (Int.negSucc_lt_zero n), show (toString (Int.negSucc n) : String) = "-" ++ toString (((n + 1 : Nat) : Int)) from rfl, app_list]
    have := tl_num (n + 1)
    show (Str.ofString "-").cps.toList ++ tl (Str.ofString (toString (((n + 1 : Nat) : Int)))) = _
    rw [this]
    have e : (Str.ofString "-").cps.toList = [45] := by decide +kernel
    rw [e]
    rfl
theorem numL_head : ∀ (n : Nat), n ≠ 0 → (numL n).head? ≠ some 48 := by
  intro n
  induction n using Nat.strongRecOn with
  | _ n ih =>
    intro h
    rcases Nat.lt_or_ge n 10 with q | q
    · rw [numL_lt q]
      simp
      omega
    · rw [numL_step q]
      have := ih (n / 10) (by omega) (by omega)
      cases hn : numL (n / 10) with
      | nil => exact absurd hn (numL_ne _)
      | cons a r =>
        rw [hn] at this
        simpa using this
theorem dig_num (n : Nat) : ∀ c ∈ numL n, 48 ≤ c ∧ c ≤ 57 := fun c hc => by
  have := numL_digits n c hc
  exact this
theorem itx_len {i : Int} (h : i.natAbs < 10 ^ 30) : (itx i).length ≤ 31 ∧ itx i ≠ [] := by
  have := numL_len (k := 30) (by decide) h
  have ne := numL_ne i.natAbs
  unfold itx
  split
  · simp
    exact this
  · exact ⟨by omega, ne⟩
theorem int_text {x : Str} {i : Int} (h : x.cps.toList = itx i) (hi : i.natAbs < 10 ^ 30) : intText? x = some i := by
  have hl := itx_len hi
  have h2 : x.length ≤ 4300 := by rw [len_cps, h]; omega
  unfold itx at h
  by_cases hn : i < 0
  · rw [if_pos hn] at h
    rw [intText_neg h (numL_digits _) (numL_ne _) h2, numL_val]
    congr 1
    omega
  · rw [if_neg hn] at h
    rw [intText_digits (by rw [h]; exact numL_digits _) (by rw [h]; exact numL_ne _) h2, h, numL_val]
    congr 1
    omega
/-! ### joined by a blank -/
abbrev jn (ts : List (List Nat)) : List Nat := joinL [32] ts
theorem join_list (ys : List Str) : (Txt.join (Str.ofString " ") ys).cps.toList = jn (ys.map fun y => y.cps.toList) := by
  rw [join_eq]
  have e : tl (Str.ofString " ") = [32] := by decide +kernel
  have := tl_join (Str.ofString " ") ys
  rw [e] at this
  exact this
theorem jn_cons (a b : List Nat) (r : List (List Nat)) : jn (a :: b :: r) = a ++ 32 :: jn (b :: r) := rfl
theorem jn_len : ∀ ts : List (List Nat), (jn ts).length + 1 ≥ (ts.map List.length).sum + ts.length ∧ (jn ts).length ≤ (ts.map List.length).sum + ts.length
  | [] => by simp [jn, joinL]
  | [a] => by simp [jn, joinL]
  | a :: b :: r => by
    have ih := jn_len (b :: r)
    rw [jn_cons]
    simp only [List.length_append, List.length_cons, List.map_cons, List.sum_cons] at ih ⊢
    omega
end TX

namespace Md
open PySem L2 DL PyProof.Rows
def kd_ESCAPES : List (Str × D) := [("\"", .str "\""), ("\\", .str "\\"), ("n", .str "\n")]
def ms_ESCAPES : List Str := []
def kd_WORDS : List (Str × D) := [("T", .bool true), ("F", .bool false), ("N", .none)]
def ms_WORDS : List Str := ["\"", "(", "-", "0", "1", "2", "3", "4", "5", "6", "7", "8", "9"]
noncomputable def m_show_plain_e1 (S_show_plain : Sf) : M D :=
  (mZ (mCall S_show_plain (aCons (aD (mVar 1)) aNil)))
noncomputable def m_show_plain (S_show_plain : Sf) : En → Out :=
  (sSeq (sIf (mBool (m2 isD (mH (mN (mVar 0))) (mH (mN (mC .none))))) (sRet (mN (mC (.str "N")))) sNext)
    (sSeq (sIf (mBool (m2 isD (mH (mN (mVar 0))) (mH (mN (mC (.bool true)))))) (sRet (mN (mC (.str "T")))) sNext)
    (sSeq (sIf (mBool (m2 isD (mH (mN (mVar 0))) (mH (mN (mC (.bool false)))))) (sRet (mN (mC (.str "F")))) sNext)
    (sSeq (sIf (mTru (mH (mN (mIs "int" (mH (mN (mVar 0))))))) (sRet (mL strD (aCons (mH (mN (mVar 0))) aNil))) sNext)
    (sSeq (sIf (mTru (mH (mN (mIs "str" (mH (mN (mVar 0))))))) (sRet (m2 addD (mH (m2 addD (mH (mN (mC (.str "\"")))) (mH (mRepl "\n" "\\n" (mRepl "\"" "\\\"" (mRepl "\\" "\\\\" (mN (mVar 0)))))))) (mH (mN (mC (.str "\"")))))) sNext)
    (sRet (m2 addD (mH (m2 addD (mH (mN (mC (.str "(")))) (mH (mJoin (mH (mN (mC (.str " ")))) (mH (mComp (mSeqA (mVar 0)) (tgN 1) [1] mYes (m_show_plain_e1 S_show_plain))))))) (mH (mN (mC (.str ")")))))))))))
noncomputable def m_read_plain (S_read_value : Sf) : En → Out :=
  (sSeq (sTgt (tgT [(tgN 1), (tgN 2)]) (mZ (mCall S_read_value (aCons (aD (mVar 0)) (aCons (aD (mC (.int 0))) (aCons (aD (mC (.int 0))) aNil))))))
    (sSeq (sIf (mBool (m2 ltD (mH (mN (mVar 2))) (mH (mL lenD (aCons (mH (mN (mVar 0))) aNil))))) sNo sNext)
    (sRet (mN (mVar 1)))))
noncomputable def m_read_value (S_read_string S_read_tuple S_read_integer : Sf) : En → Out :=
  (sSeq (sAsgF 3 (mZ (mSlice (mH (mN (mVar 0))) (mO1 (mVar 1)) (mO1 (mZ (m2 addD (mH (mN (mVar 1))) (mH (mN (mC (.int 1))))))))))
    (sSeq (sIf (mBool (mInK true kd_WORDS ms_WORDS (mVar 3))) (sRet (mN (mTup (aCons (mZ (mIxK kd_WORDS (mVar 3))) (aCons (mZ (m2 addD (mH (mN (mVar 1))) (mH (mN (mC (.int 1)))))) aNil))))) sNext)
    (sSeq (sIf (mBool (m2 eqD (mH (mN (mVar 3))) (mH (mN (mC (.str "\"")))))) (sRet (mCall S_read_string (aCons (aD (mVar 0)) (aCons (aD (mZ (m2 addD (mH (mN (mVar 1))) (mH (mN (mC (.int 1))))))) aNil)))) sNext)
    (sSeq (sIf (mAnd (mBool (m2 eqD (mH (mN (mVar 3))) (mH (mN (mC (.str "(")))))) (mBool (m2 ltD (mH (mN (mVar 2))) (mH (mN (mC (.int 40))))))) (sRet (mCall S_read_tuple (aCons (aD (mVar 0)) (aCons (aD (mZ (m2 addD (mH (mN (mVar 1))) (mH (mN (mC (.int 1))))))) (aCons (aD (mZ (m2 addD (mH (mN (mVar 2))) (mH (mN (mC (.int 1))))))) aNil))))) sNext)
    (sRet (mCall S_read_integer (aCons (aD (mVar 0)) (aCons (aD (mVar 1)) aNil))))))))
noncomputable def m_read_integer : En → Out :=
  (sSeq (sAsgF 2 (mZ (mIf (mBool (m2 eqD (mH (mSlice (mH (mN (mVar 0))) (mO1 (mVar 1)) (mO1 (mZ (m2 addD (mH (mN (mVar 1))) (mH (mN (mC (.int 1))))))))) (mH (mN (mC (.str "-")))))) (m2 addD (mH (mN (mVar 1))) (mH (mN (mC (.int 1))))) (mN (mVar 1)))))
    (sSeq (sAsgF 3 (mZ (mSlice (mH (mN (mVar 0))) (mO1 (mVar 2)) (mO1 (mZ (m2 addD (mH (m2 addD (mH (mN (mVar 2))) (mH (mN (mC (.int 2000)))))) (mH (mN (mC (.int 1))))))))))
    (sSeq (sAsgF 4 (mZ (m2 subD (mH (mL lenD (aCons (mH (mN (mVar 3))) aNil))) (mH (mL lenD (aCons (mH (mSm gLstrip (mVar 3) (aCons (mC (.str "0123456789")) aNil))) aNil))))))
    (sSeq (sIf (mBool (m2 eqD (mH (mN (mVar 4))) (mH (mN (mC (.int 0)))))) sNo sNext)
    (sSeq (sIf (mAnd (mBool (m2 eqD (mH (m2 ixD (mH (mN (mVar 3))) (mH (mN (mC (.int 0)))))) (mH (mN (mC (.str "0")))))) (mBool (m2 gtD (mH (mN (mVar 2))) (mH (mN (mVar 1)))))) sNo sNext)
    (sSeq (sIf (mAnd (mBool (m2 eqD (mH (m2 ixD (mH (mN (mVar 3))) (mH (mN (mC (.int 0)))))) (mH (mN (mC (.str "0")))))) (mBool (m2 gtD (mH (mN (mVar 4))) (mH (mN (mC (.int 1))))))) sNo sNext)
    (sSeq (sIf (mBool (m2 gtD (mH (mN (mVar 4))) (mH (mN (mC (.int 2000)))))) sNo sNext)
    (sRet (mN (mTup (aCons (mZ (mL intSD (aCons (mH (mSlice (mH (mN (mVar 0))) (mO1 (mVar 1)) (mO1 (mZ (m2 addD (mH (mN (mVar 2))) (mH (mN (mVar 4)))))))) aNil))) (aCons (mZ (m2 addD (mH (mN (mVar 2))) (mH (mN (mVar 4))))) aNil))))))))))))
noncomputable def m_read_string_t1 : M Bool :=
  (mTru (mH (mN (mC (.bool true)))))
noncomputable def m_read_string_w1 : En → Out :=
  (sSeq (sAsgF 3 (mZ (mSm gFind3 (mVar 0) (aCons (mC (.str "\"")) (aCons (mVar 1) aNil)))))
    (sSeq (sAsgF 4 (mZ (mIf (mBool (m2 ltD (mH (mN (mVar 3))) (mH (mN (mC (.int 0)))))) (mL lenD (aCons (mH (mN (mVar 0))) aNil)) (mN (mVar 3)))))
    (sSeq (sAsgF 5 (mZ (mSm gFind4 (mVar 0) (aCons (mC (.str "\\")) (aCons (mVar 1) (aCons (mVar 4) aNil))))))
    (sSeq (sIf (mBool (m2 geD (mH (mN (mVar 5))) (mH (mN (mC (.int 0)))))) (sAsgF 4 (mVar 5)) sNext)
    (sSeq (sAsgF 6 (mZ (mSm gFind4 (mVar 0) (aCons (mC (.str "\n")) (aCons (mVar 1) (aCons (mVar 4) aNil))))))
    (sSeq (sIf (mBool (m2 geD (mH (mN (mVar 6))) (mH (mN (mC (.int 0)))))) sNo sNext)
    (sSeq (sApp 2 (mZ (mSlice (mH (mN (mVar 0))) (mO1 (mVar 1)) (mO1 (mVar 4)))))
    (sSeq (sIf (mAnd (mBool (m2 ltD (mH (mN (mVar 5))) (mH (mN (mC (.int 0)))))) (mBool (m2 ltD (mH (mN (mVar 3))) (mH (mN (mC (.int 0))))))) sNo sNext)
    (sSeq (sIf (mBool (m2 ltD (mH (mN (mVar 5))) (mH (mN (mC (.int 0)))))) (sRet (mN (mTup (aCons (mZ (mJoin (mH (mN (mC (.str "")))) (mSl 2))) (aCons (mZ (m2 addD (mH (mN (mVar 3))) (mH (mN (mC (.int 1)))))) aNil))))) sNext)
    (sSeq (sAsgF 7 (mZ (mSlice (mH (mN (mVar 0))) (mO1 (mZ (m2 addD (mH (mN (mVar 5))) (mH (mN (mC (.int 1))))))) (mO1 (mZ (m2 addD (mH (mN (mVar 5))) (mH (mN (mC (.int 2))))))))))
    (sSeq (sIf (mBool (mInK false kd_ESCAPES ms_ESCAPES (mVar 7))) sNo sNext)
    (sSeq (sApp 2 (mZ (mIxK kd_ESCAPES (mVar 7))))
    (sAsgF 1 (mZ (m2 addD (mH (mN (mVar 5))) (mH (mN (mC (.int 2)))))))))))))))))))
noncomputable def m_read_string : En → Out :=
  (sSeq (sAsg 2 (mLst aNil))
    (sWhile m_read_string_t1 m_read_string_w1))
noncomputable def m_read_tuple_t1 : M Bool :=
  (mTru (mH (mN (mC (.bool true)))))
noncomputable def m_read_tuple_w1 (S_read_value : Sf) : En → Out :=
  (sSeq (sTgt (tgT [(tgN 4), (tgN 1)]) (mZ (mCall S_read_value (aCons (aD (mVar 0)) (aCons (aD (mVar 1)) (aCons (aD (mVar 2)) aNil))))))
    (sSeq (sApp 3 (mVar 4))
    (sSeq (sAsgF 5 (mZ (mSlice (mH (mN (mVar 0))) (mO1 (mVar 1)) (mO1 (mZ (m2 addD (mH (mN (mVar 1))) (mH (mN (mC (.int 1))))))))))
    (sSeq (sIf (mBool (m2 eqD (mH (mN (mVar 5))) (mH (mN (mC (.str ")")))))) (sRet (mN (mTup (aCons (mZ (mL tupleD (aCons (mSl 3) aNil))) (aCons (mZ (m2 addD (mH (mN (mVar 1))) (mH (mN (mC (.int 1)))))) aNil))))) sNext)
    (sSeq (sIf (mBool (m2 neD (mH (mN (mVar 5))) (mH (mN (mC (.str " ")))))) sNo sNext)
    (sAug iaddD 1 (mC (.int 1))))))))
noncomputable def m_read_tuple (S_read_value : Sf) : En → Out :=
  (sSeq (sIf (mBool (m2 eqD (mH (mSlice (mH (mN (mVar 0))) (mO1 (mVar 1)) (mO1 (mZ (m2 addD (mH (mN (mVar 1))) (mH (mN (mC (.int 1))))))))) (mH (mN (mC (.str ")")))))) (sRet (mN (mTup (aCons (mTup aNil) (aCons (mZ (m2 addD (mH (mN (mVar 1))) (mH (mN (mC (.int 1)))))) aNil))))) sNext)
    (sSeq (sAsg 3 (mLst aNil))
    (sWhile m_read_tuple_t1 (m_read_tuple_w1 S_read_value))))
noncomputable def m_law_digits_2638e9_b1 : En → Out :=
  (sIf (mBool (m2 gtD (mH (mN (mVar 5))) (mH (mN (mC (.int 0)))))) (sSeq (sApp 3 (mZ (m2 modD (mH (mL intD (aCons (mH (mN (mVar 5))) aNil))) (mH (mN (mC (.int 1000)))))))
    (sAsgF 5 (mZ (m2 fdivD (mH (mN (mVar 5))) (mH (mN (mC (.int 1000)))))))) sNext)
noncomputable def m_law_digits_2638e9_b2 : En → Out :=
  (sSeq (sAsgF 7 (mZ (m2 modD (mH (mL intD (aCons (mH (m2 addD (mH (m2 addD (mH (m2 mulD (mH (mN (mVar 7))) (mH (mN (mC (.int 16807)))))) (mH (m2 mulD (mH (mN (mC (.int 7)))) (mH (mN (mVar 6))))))) (mH (mN (mC (.int 1)))))) aNil))) (mH (mN (mC (.int 2147483647)))))))
    (sApp 3 (mZ (m2 modD (mH (mL intD (aCons (mH (m2 fdivD (mH (mN (mVar 7))) (mH (mN (mC (.int 997)))))) aNil))) (mH (mN (mC (.int 1000))))))))
noncomputable def m_law_digits_2638e9_b3 (S_law_cell : Sf) : En → Out :=
  (sSeq (sIf (mBool (m2 gtD (mH (mL lenD (aCons (mSl 3) aNil))) (mH (mN (mC (.int 1500)))))) sBreak sNext)
    (sSeq (sAsgF 5 (mZ (mCall S_law_cell (aCons (aD (mVar 0)) (aCons (aD (mVar 4)) aNil)))))
    (sSeq (sIf (mBool (m2 ltD (mH (mN (mVar 5))) (mH (mN (mC (.int 0)))))) (sAsgF 5 (mZ (m2 subD (mH (mN (mC (.int 1)))) (mH (m2 mulD (mH (mN (mC (.int 2)))) (mH (mN (mVar 5)))))))) sNext)
    (sIf (mBool (m2 geD (mH (mN (mVar 5))) (mH (m2 powD (mH (mN (mC (.int 10)))) (mH (mN (mC (.int 18)))))))) (sFor (mRng1 (aCons (mC (.int 60)) aNil)) (tgN 6) m_law_digits_2638e9_b1) (sSeq (sAsgF 7 (mZ (m2 modD (mH (mL intD (aCons (mH (m2 addD (mH (m2 addD (mH (m2 mulD (mH (mN (mVar 5))) (mH (mN (mC (.int 48271)))))) (mH (m2 mulD (mH (mN (mVar 4))) (mH (mN (mC (.int 69621)))))))) (mH (mN (mC (.int 11)))))) aNil))) (mH (mN (mC (.int 2147483647)))))))
    (sFor (mRng1 (aCons (mC (.int 12)) aNil)) (tgN 6) m_law_digits_2638e9_b2))))))
noncomputable def m_law_digits_2638e9 (S_law_cell : Sf) : En → Out :=
  (sSeq (sAsg 3 (mLst aNil))
    (sSeq (sFor (mRng2 (aCons (mVar 1) (aCons (mVar 2) aNil))) (tgN 4) (m_law_digits_2638e9_b3 S_law_cell))
    (sRetS 3)))
noncomputable def m_law_same_b1 (S_law_same : Sf) : En → Out :=
  (sIf (mNot (mTru (mH (mCall S_law_same (aCons (aD (mZ (m2 ixD (mH (mN (mVar 0))) (mH (mN (mVar 2)))))) (aCons (aD (mZ (m2 ixD (mH (mN (mVar 1))) (mH (mN (mVar 2)))))) aNil)))))) (sRet (mN (mC (.bool false)))) sNext)
noncomputable def m_law_same (S_law_same : Sf) : En → Out :=
  (sSeq (sIf (mTru (mH (mN (mIs "tuple" (mH (mN (mVar 1))))))) (sSeq (sIf (mOr (mNot (mTru (mH (mN (mIs "tuple" (mH (mN (mVar 0)))))))) (mBool (m2 neD (mH (mL lenD (aCons (mH (mN (mVar 0))) aNil))) (mH (mL lenD (aCons (mH (mN (mVar 1))) aNil)))))) (sRet (mN (mC (.bool false)))) sNext)
    (sSeq (sFor (mRng1 (aCons (mZ (mL lenD (aCons (mH (mN (mVar 1))) aNil))) aNil)) (tgN 2) (m_law_same_b1 S_law_same))
    (sRet (mN (mC (.bool true)))))) sNext)
    (sSeq (sIf (mBool (m2 isD (mH (mN (mVar 1))) (mH (mN (mC .none))))) (sRet (m2 isD (mH (mN (mVar 0))) (mH (mN (mC .none))))) sNext)
    (sSeq (sIf (mBool (m2 isD (mH (mN (mVar 1))) (mH (mN (mC (.bool true)))))) (sRet (m2 isD (mH (mN (mVar 0))) (mH (mN (mC (.bool true)))))) sNext)
    (sSeq (sIf (mBool (m2 isD (mH (mN (mVar 1))) (mH (mN (mC (.bool false)))))) (sRet (m2 isD (mH (mN (mVar 0))) (mH (mN (mC (.bool false)))))) sNext)
    (sSeq (sIf (mTru (mH (mN (mIs "int" (mH (mN (mVar 1))))))) (sRet (mAndV (mN (mIs "int" (mH (mN (mVar 0))))) (mAndV (mN (mNotV (mN (mIs "bool" (mH (mN (mVar 0))))))) (m2 eqD (mH (mN (mVar 0))) (mH (mN (mVar 1))))))) sNext)
    (sRet (mAndV (mN (mIs "str" (mH (mN (mVar 0))))) (m2 eqD (mH (mN (mVar 0))) (mH (mN (mVar 1)))))))))))
noncomputable def m_law_plain_e1 (S_law_plain : Sf) : M D :=
  (mZ (mCall S_law_plain (aCons (aD (mVar 1)) aNil)))
noncomputable def m_law_plain (S_law_plain : Sf) : En → Out :=
  (sSeq (sIf (mBool (m2 isD (mH (mN (mVar 0))) (mH (mN (mC .none))))) (sRet (mN (mC (.str "N")))) sNext)
    (sSeq (sIf (mBool (m2 isD (mH (mN (mVar 0))) (mH (mN (mC (.bool true)))))) (sRet (mN (mC (.str "T")))) sNext)
    (sSeq (sIf (mBool (m2 isD (mH (mN (mVar 0))) (mH (mN (mC (.bool false)))))) (sRet (mN (mC (.str "F")))) sNext)
    (sSeq (sIf (mTru (mH (mN (mIs "int" (mH (mN (mVar 0))))))) (sRet (mL strD (aCons (mH (mN (mVar 0))) aNil))) sNext)
    (sSeq (sIf (mTru (mH (mN (mIs "tuple" (mH (mN (mVar 0))))))) (sRet (m2 addD (mH (m2 addD (mH (mN (mC (.str "(")))) (mH (mJoin (mH (mN (mC (.str " ")))) (mH (mComp (mSeqA (mVar 0)) (tgN 1) [1] mYes (m_law_plain_e1 S_law_plain))))))) (mH (mN (mC (.str ")")))))) sNext)
    (sRet (m2 addD (mH (m2 addD (mH (mN (mC (.str "\"")))) (mH (mRepl "\n" "\\n" (mRepl "\"" "\\\"" (mRepl "\\" "\\\\" (mN (mVar 0)))))))) (mH (mN (mC (.str "\"")))))))))))
noncomputable def m_law_value_e1 (S_law_value : Sf) : M D :=
  (mZ (mCall S_law_value (aCons (aS 0) (aCons (aD (mZ (m2 subD (mH (mN (mVar 1))) (mH (mN (mC (.int 1))))))) aNil))))
noncomputable def m_law_value_e2 (S_law_draw : Sf) : M D :=
  (mZ (m2 ixD (mH (mN (mVar 4))) (mH (m2 modD (mH (mL intD (aCons (mH (mCall S_law_draw (aCons (aS 0) (aCons (aD (mC (.int 900))) aNil)))) aNil))) (mH (mL lenD (aCons (mH (mN (mVar 4))) aNil)))))))
noncomputable def m_law_value (S_law_draw S_law_value : Sf) : En → Out :=
  (sSeq (sAsgF 2 (mZ (mCall S_law_draw (aCons (aS 0) (aCons (aD (mC (.int 9))) aNil)))))
    (sSeq (sIf (mAnd (mBool (m2 ltD (mH (mN (mVar 2))) (mH (mN (mC (.int 3)))))) (mBool (m2 gtD (mH (mN (mVar 1))) (mH (mN (mC (.int 0))))))) (sRet (mL tupleD (aCons (mH (mComp (mRng1 (aCons (mZ (mCall S_law_draw (aCons (aS 0) (aCons (aD (mC (.int 4))) aNil)))) aNil)) (tgN 5) [5] mYes (m_law_value_e1 S_law_value))) aNil))) sNext)
    (sSeq (sIf (mBool (m2 eqD (mH (mN (mVar 2))) (mH (mN (mC (.int 3)))))) (sRet (m2 ixD (mH (mLst (aCons (mC .none) (aCons (mC (.bool true)) (aCons (mC (.bool false)) aNil))))) (mH (mCall S_law_draw (aCons (aS 0) (aCons (aD (mC (.int 3))) aNil)))))) sNext)
    (sSeq (sIf (mBool (m2 eqD (mH (mN (mVar 2))) (mH (mN (mC (.int 4)))))) (sSeq (sAsgF 3 (mZ (m2 subD (mH (m2 addD (mH (m2 mulD (mH (mCall S_law_draw (aCons (aS 0) (aCons (aD (mC (.int 900))) aNil)))) (mH (m2 powD (mH (mN (mC (.int 10)))) (mH (mN (mC (.int 16)))))))) (mH (mCall S_law_draw (aCons (aS 0) (aCons (aD (mC (.int 900))) aNil)))))) (mH (mN (mC (.int 450)))))))
    (sRet (m2 ixD (mH (mLst (aCons (mVar 3) (aCons (mZ (m2 subD (mH (mN (mC (.int 0)))) (mH (mN (mVar 3))))) (aCons (mZ (m2 addD (mH (m2 powD (mH (mN (mC (.int 10)))) (mH (mN (mC (.int 19)))))) (mH (mN (mVar 3))))) (aCons (mC (.int 0)) aNil)))))) (mH (mCall S_law_draw (aCons (aS 0) (aCons (aD (mC (.int 4))) aNil))))))) sNext)
    (sSeq (sIf (mBool (m2 eqD (mH (mN (mVar 2))) (mH (mN (mC (.int 5)))))) (sRet (m2 subD (mH (mCall S_law_draw (aCons (aS 0) (aCons (aD (mC (.int 30))) aNil)))) (mH (mN (mC (.int 15)))))) sNext)
    (sSeq (sAsgF 4 (mC (.str " !\"#$&'()*+,-./0189:;<=>?@AZ[\\]^_`az{|}~\nnTFN")))
    (sRet (mJoin (mH (mN (mC (.str "")))) (mH (mComp (mRng1 (aCons (mZ (mCall S_law_draw (aCons (aS 0) (aCons (aD (mC (.int 9))) aNil)))) aNil)) (tgN 5) [5] mYes (m_law_value_e2 S_law_draw)))))))))))
noncomputable def m_law_ec53e0_b1 : En → Out :=
  (sAsgF 3 (mTup (aCons (mVar 3) aNil)))
noncomputable def m_law_ec53e0_b2 (S_law_value S_law_draw S_law_plain S_law_same S_show_plain S_read_plain : Sf) : En → Out :=
  (sSeq (sAsgF 3 (mZ (mCall S_law_value (aCons (aS 1) (aCons (aD (mC (.int 4))) aNil)))))
    (sSeq (sFor (mRng1 (aCons (mZ (m2 ixD (mH (mLst (aCons (mC (.int 0)) (aCons (mC (.int 0)) (aCons (mC (.int 0)) (aCons (mC (.int 36)) aNil)))))) (mH (mCall S_law_draw (aCons (aS 1) (aCons (aD (mC (.int 4))) aNil)))))) aNil)) (tgN 4) m_law_ec53e0_b1)
    (sSeq (sAsgF 5 (mZ (mCall S_law_plain (aCons (aD (mVar 3)) aNil))))
    (sIf (mOr (mNot (mTru (mH (mCall S_law_same (aCons (aD (mZ (mCall S_show_plain (aCons (aD (mVar 3)) aNil)))) (aCons (aD (mVar 5)) aNil)))))) (mNot (mTru (mH (mCall S_law_same (aCons (aD (mZ (mCall S_read_plain (aCons (aD (mVar 5)) aNil)))) (aCons (aD (mVar 3)) aNil))))))) (sRet (mN (mC (.bool false)))) sNext))))
noncomputable def m_law_ec53e0 (S_law_digits S_law_value S_law_draw S_law_plain S_law_same S_show_plain S_read_plain : Sf) : En → Out :=
  (sSeq (sAsg 1 (mLst (aCons (mZ (mCall S_law_digits (aCons (aD (mVar 0)) (aCons (aD (mC (.int 0))) (aCons (aD (mC (.int 63))) aNil))))) (aCons (mC (.int 0)) aNil))))
    (sSeq (sFor (mRng1 (aCons (mC (.int 6)) aNil)) (tgN 2) (m_law_ec53e0_b2 S_law_value S_law_draw S_law_plain S_law_same S_show_plain S_read_plain))
    (sRet (mN (mC (.bool true))))))
end Md
namespace Lk27
open PySem L2 DL PyProof.Rows Md
def topS (i : Nat) : Stmt := PySem.Challenge.pw_truewheel_k27_plain_there_and_back.main.body.getD i (.Pass ⟨0, 0, 0, 0⟩)
structure Txt (K : PySem.W.Frag) (w : World) (mg : Str → Option Value) : Prop where
  c_DEEPEST : ∃ t, mg "DEEPEST" = some (.int 40 t)
  c_DIGITS : ∃ t, mg "DIGITS" = some (.str "0123456789" t)
  c_ESCAPES : KDat K w mg "ESCAPES" kd_ESCAPES ms_ESCAPES
  c_MOST_DIGITS : ∃ t, mg "MOST_DIGITS" = some (.int 2000 t)
  c_WORDS : KDat K w mg "WORDS" kd_WORDS ms_WORDS
  b_bool : mg "bool" = none
  b_int : mg "int" = none
  b_isinstance : mg "isinstance" = none
  b_len : mg "len" = none
  b_range : mg "range" = none
  b_str : mg "str" = none
  b_tuple : mg "tuple" = none
/-! show_plain -/
abbrev s_show_plain : Stmt := topS 9
abbrev N_show_plain : List Str := ["value", "member"]
abbrev p_show_plain : List Str := ["value"]
theorem sc_show_plain : FnScope N_show_plain p_show_plain (defScope s_show_plain) := ⟨rfl, rfl, rfl, by decide +kernel, rfl, by decide +kernel, by decide +kernel⟩
/-! read_plain -/
abbrev s_read_plain : Stmt := topS 10
abbrev N_read_plain : List Str := ["text", "value", "at"]
abbrev p_read_plain : List Str := ["text"]
theorem sc_read_plain : FnScope N_read_plain p_read_plain (defScope s_read_plain) := ⟨rfl, rfl, rfl, by decide +kernel, rfl, by decide +kernel, by decide +kernel⟩
/-! _read_value -/
abbrev s_read_value : Stmt := topS 11
abbrev N_read_value : List Str := ["text", "at", "depth", "sign"]
abbrev p_read_value : List Str := ["text", "at", "depth"]
theorem sc_read_value : FnScope N_read_value p_read_value (defScope s_read_value) := ⟨rfl, rfl, rfl, by decide +kernel, rfl, by decide +kernel, by decide +kernel⟩
/-! _read_integer -/
abbrev s_read_integer : Stmt := topS 12
abbrev N_read_integer : List Str := ["text", "at", "first", "piece", "many"]
abbrev p_read_integer : List Str := ["text", "at"]
theorem sc_read_integer : FnScope N_read_integer p_read_integer (defScope s_read_integer) := ⟨rfl, rfl, rfl, by decide +kernel, rfl, by decide +kernel, by decide +kernel⟩
/-! _read_string -/
abbrev s_read_string : Stmt := topS 13
abbrev N_read_string : List Str := ["text", "at", "parts", "quote", "end", "slash", "feed", "sign"]
abbrev p_read_string : List Str := ["text", "at"]
theorem sc_read_string : FnScope N_read_string p_read_string (defScope s_read_string) := ⟨rfl, rfl, rfl, by decide +kernel, rfl, by decide +kernel, by decide +kernel⟩
/-! _read_tuple -/
abbrev s_read_tuple : Stmt := topS 14
abbrev N_read_tuple : List Str := ["text", "at", "depth", "members", "member", "sign"]
abbrev p_read_tuple : List Str := ["text", "at", "depth"]
theorem sc_read_tuple : FnScope N_read_tuple p_read_tuple (defScope s_read_tuple) := ⟨rfl, rfl, rfl, by decide +kernel, rfl, by decide +kernel, by decide +kernel⟩
/-! _law_cell -/
abbrev s_law_cell : Stmt := topS 16
abbrev N_law_cell : List Str := ["script", "k"]
abbrev p_law_cell : List Str := ["script", "k"]
theorem sc_law_cell : FnScope N_law_cell p_law_cell (defScope s_law_cell) := ⟨rfl, rfl, rfl, by decide +kernel, rfl, by decide +kernel, by decide +kernel⟩
/-! _law_digits -/
abbrev s_law_digits : Stmt := topS 17
abbrev N_law_digits : List Str := ["script", "first", "last", "digits", "k", "cell", "turn", "seed"]
abbrev p_law_digits : List Str := ["script", "first", "last"]
theorem sc_law_digits : FnScope N_law_digits p_law_digits (defScope s_law_digits) := ⟨rfl, rfl, rfl, by decide +kernel, rfl, by decide +kernel, by decide +kernel⟩
/-! _law_draw -/
abbrev s_law_draw : Stmt := topS 18
abbrev N_law_draw : List Str := ["box", "many", "at"]
abbrev p_law_draw : List Str := ["box", "many"]
theorem sc_law_draw : FnScope N_law_draw p_law_draw (defScope s_law_draw) := ⟨rfl, rfl, rfl, by decide +kernel, rfl, by decide +kernel, by decide +kernel⟩
/-! _law_same -/
abbrev s_law_same : Stmt := topS 19
abbrev N_law_same : List Str := ["actual", "due", "k"]
abbrev p_law_same : List Str := ["actual", "due"]
theorem sc_law_same : FnScope N_law_same p_law_same (defScope s_law_same) := ⟨rfl, rfl, rfl, by decide +kernel, rfl, by decide +kernel, by decide +kernel⟩
/-! _law_plain -/
abbrev s_law_plain : Stmt := topS 20
abbrev N_law_plain : List Str := ["value", "one"]
abbrev p_law_plain : List Str := ["value"]
theorem sc_law_plain : FnScope N_law_plain p_law_plain (defScope s_law_plain) := ⟨rfl, rfl, rfl, by decide +kernel, rfl, by decide +kernel, by decide +kernel⟩
/-! _law_value -/
abbrev s_law_value : Stmt := topS 21
abbrev N_law_value : List Str := ["box", "deep", "kind", "number", "signs", "k"]
abbrev p_law_value : List Str := ["box", "deep"]
theorem sc_law_value : FnScope N_law_value p_law_value (defScope s_law_value) := ⟨rfl, rfl, rfl, by decide +kernel, rfl, by decide +kernel, by decide +kernel⟩
/-! law -/
abbrev s_law : Stmt := topS 22
abbrev N_law : List Str := ["script", "box", "turn", "value", "k", "text"]
abbrev p_law : List Str := ["script"]
theorem sc_law : FnScope N_law p_law (defScope s_law) := ⟨rfl, rfl, rfl, by decide +kernel, rfl, by decide +kernel, by decide +kernel⟩
section
variable {P : Program} {w : World} {K : PySem.W.Frag} {mg : Str → Option Value} {base : Heap}
theorem der_show_plain {f : Addr} {fd : FuncData} (A : At1 K mg "show_plain" s_show_plain p_show_plain f fd) (T : Txt K w mg) {S_show_plain : Sf} {j_show_plain : Nat} (c_show_plain : DFn P w K mg base "show_plain" j_show_plain S_show_plain) {k : Nat} (h_show_plain : j_show_plain ≤ k) {S : Sf} (hS : ∀ cs c outs, S cs = .ok (c, outs) → cs.length = 1 ∧ runD 2 (m_show_plain S_show_plain) cs = .ok (c, outs)) : DFn P w K mg base "show_plain" (k + 1) S :=
  dfn_ok A sc_show_plain (by decide) (m_show_plain S_show_plain) (fun cdv A outer s H E hr =>
    (pds_cons (pds_if (ptd_cmp op_isA snd_is (nomark _) (ph_f (pf_var (pv 0))) (ph_n (pn_f pf_non))) (pds_one (pds_ret (pn_f pf_str))) pds_nil)
    (pds_cons (pds_if (ptd_cmp op_isA snd_is (nomark _) (ph_f (pf_var (pv 0))) (ph_n (pn_f pf_bl))) (pds_one (pds_ret (pn_f pf_str))) pds_nil)
    (pds_cons (pds_if (ptd_cmp op_isA snd_is (nomark _) (ph_f (pf_var (pv 0))) (ph_n (pn_f pf_bl))) (pds_one (pds_ret (pn_f pf_str))) pds_nil)
    (pds_cons (pds_if (ptd_tru (ph_n (pn_f (pf_isi tyOk_int (by rfl) T.b_isinstance (ph_f (pf_var (pv 0))) (by rfl) T.b_int bt_int)))) (pds_one (pds_ret (pn_ty call_str_int snd_str (by rfl) T.b_str bt_str (pah_cons (ph_f (pf_var (pv 0))) pah_nil)))) pds_nil)
    (pds_cons (pds_if (ptd_tru (ph_n (pn_f (pf_isi tyOk_str (by rfl) T.b_isinstance (ph_f (pf_var (pv 0))) (by rfl) T.b_str bt_str)))) (pds_one (pds_ret (pn_op op_addA snd_add (ph_n (pn_strOp op_addA snd_add (pnt_repl (pnt_repl (pnt_repl1 (pn_f (pf_var (pv 0)))))))) (ph_n (pn_f pf_str))))) pds_nil)
    (pds_one (pds_ret (pn_op op_addA snd_add (ph_n (pn_op op_addA snd_add (ph_n (pn_f pf_str)) (ph_n (pn_join (ph_n (pn_f pf_str)) (ph_n (pn_lc (own := [("member", 1)]) rfl sc_show_plain.nd (pid_seq (pf_var (pv 0))) (blkOk_by (N := N_show_plain) (sc := defScope s_show_plain) (by decide +kernel)) (tgOk_n 1) (by decide) (fun _ _ _ _ _ => (pgd_name (i := 1) sc_show_plain.nd rfl (.inl rfl))) (fun _ _ _ _ _ => ptsd_nil) (fun _ _ _ _ _ => (pf_n (pn_cd c_show_plain hr h_show_plain (by rfl) (pag_cons (pf_var (pv 1)) pag_nil)))))))))) (ph_n (pn_f pf_str))))))))))) hS
theorem der_read_plain {f : Addr} {fd : FuncData} (A : At1 K mg "read_plain" s_read_plain p_read_plain f fd) (T : Txt K w mg) {S_read_value : Sf} {j_read_value : Nat} (c_read_value : DFn P w K mg base "_read_value" j_read_value S_read_value) {k : Nat} (h_read_value : j_read_value ≤ k) {S : Sf} (hS : ∀ cs c outs, S cs = .ok (c, outs) → cs.length = 1 ∧ runD 3 (m_read_plain S_read_value) cs = .ok (c, outs)) : DFn P w K mg base "read_plain" (k + 1) S :=
  dfn_ok A sc_read_plain (by decide) (m_read_plain S_read_value) (fun cdv A outer s H E hr =>
    (pds_cons (pds_asg (pf_n (pn_cd c_read_value hr h_read_value (by rfl) (pag_cons (pf_var (pv 0)) (pag_cons pf_int (pag_cons pf_int pag_nil))))) (pgd_tup rfl (pgds_cons (pgd_name (i := 1) sc_read_plain.nd rfl (.inl rfl)) (pgds_cons (pgd_name (i := 2) sc_read_plain.nd rfl (.inl rfl)) pgds_nil)) rfl))
    (pds_cons (pds_if (ptd_cmp op_ltA snd_lt (nomark _) (ph_f (pf_var (pv 2))) (ph_n (pn_bi call_lenA snd_len (by rfl) T.b_len bt_len (pah_cons (ph_f (pf_var (pv 0))) pah_nil)))) (pds_one pds_never) pds_nil)
    (pds_one (pds_ret (pn_f (pf_var (pv 1)))))))) hS
theorem der_read_value {f : Addr} {fd : FuncData} (A : At1 K mg "_read_value" s_read_value p_read_value f fd) (T : Txt K w mg) {S_read_string : Sf} {j_read_string : Nat} (c_read_string : DFn P w K mg base "_read_string" j_read_string S_read_string) {S_read_tuple : Sf} {j_read_tuple : Nat} (c_read_tuple : DFn P w K mg base "_read_tuple" j_read_tuple S_read_tuple) {S_read_integer : Sf} {j_read_integer : Nat} (c_read_integer : DFn P w K mg base "_read_integer" j_read_integer S_read_integer) {k : Nat} (h_read_string : j_read_string ≤ k) (h_read_tuple : j_read_tuple ≤ k) (h_read_integer : j_read_integer ≤ k) {S : Sf} (hS : ∀ cs c outs, S cs = .ok (c, outs) → cs.length = 3 ∧ runD 4 (m_read_value S_read_string S_read_tuple S_read_integer) cs = .ok (c, outs)) : DFn P w K mg base "_read_value" (k + 1) S :=
  dfn_ok A sc_read_value (by decide) (m_read_value S_read_string S_read_tuple S_read_integer) (fun cdv A outer s H E hr =>
    (pds_cons (pds_setF (i := 3) sc_read_value.nd rfl (.inl rfl) (pf_n (pn_slice (ph_f (pf_var (pv 0))) (pod_some (pf_var (pv 1))) (pod_some (pf_n (pn_op op_addA snd_add (ph_f (pf_var (pv 1))) (ph_n (pn_f pf_int))))))))
    (pds_cons (pds_if (ptd_inK T.c_WORDS (by rfl) (pf_var (pv 3))) (pds_one (pds_ret (pn_f (pf_tup (pad_cons (pf_n (pn_ixK T.c_WORDS (by rfl) (pf_var (pv 3)) (fun _ _ => rfl))) (pad_cons (pf_n (pn_op op_addA snd_add (ph_f (pf_var (pv 1))) (ph_n (pn_f pf_int)))) pad_nil)))))) pds_nil)
    (pds_cons (pds_if (ptd_cmp (op_eqA (hu64 hr)) snd_eq (nomark _) (ph_f (pf_var (pv 3))) (ph_n (pn_f pf_str))) (pds_one (pds_ret (pn_cd c_read_string hr h_read_string (by rfl) (pag_cons (pf_var (pv 0)) (pag_cons (pf_n (pn_op op_addA snd_add (ph_f (pf_var (pv 1))) (ph_n (pn_f pf_int)))) pag_nil))))) pds_nil)
    (pds_cons (pds_if (ptd_w (pwd_and (ptd_cmp (op_eqA (hu64 hr)) snd_eq (nomark _) (ph_f (pf_var (pv 3))) (ph_n (pn_f pf_str))) (pwd_and1 (ptd_cmp op_ltA snd_lt (nomark _) (ph_f (pf_var (pv 2))) (ph_n (pn_f (pf_kint (by rfl) T.c_DEEPEST))))))) (pds_one (pds_ret (pn_cd c_read_tuple hr h_read_tuple (by rfl) (pag_cons (pf_var (pv 0)) (pag_cons (pf_n (pn_op op_addA snd_add (ph_f (pf_var (pv 1))) (ph_n (pn_f pf_int)))) (pag_cons (pf_n (pn_op op_addA snd_add (ph_f (pf_var (pv 2))) (ph_n (pn_f pf_int)))) pag_nil)))))) pds_nil)
    (pds_one (pds_ret (pn_cd c_read_integer hr h_read_integer (by rfl) (pag_cons (pf_var (pv 0)) (pag_cons (pf_var (pv 1)) pag_nil)))))))))) hS
theorem der_read_integer {f : Addr} {fd : FuncData} (A : At1 K mg "_read_integer" s_read_integer p_read_integer f fd) (T : Txt K w mg) {k : Nat} {S : Sf} (hS : ∀ cs c outs, S cs = .ok (c, outs) → cs.length = 2 ∧ runD 5 m_read_integer cs = .ok (c, outs)) : DFn P w K mg base "_read_integer" (k + 1) S :=
  dfn_ok A sc_read_integer (by decide) m_read_integer (fun cdv A outer s H E hr =>
    (pds_cons (pds_setF (i := 2) sc_read_integer.nd rfl (.inl rfl) (pf_n (pn_if (ptd_cmp (op_eqA (hu64 hr)) snd_eq (nomark _) (ph_n (pn_slice (ph_f (pf_var (pv 0))) (pod_some (pf_var (pv 1))) (pod_some (pf_n (pn_op op_addA snd_add (ph_f (pf_var (pv 1))) (ph_n (pn_f pf_int))))))) (ph_n (pn_f pf_str))) (pn_op op_addA snd_add (ph_f (pf_var (pv 1))) (ph_n (pn_f pf_int))) (pn_f (pf_var (pv 1))))))
    (pds_cons (pds_setF (i := 3) sc_read_integer.nd rfl (.inl rfl) (pf_n (pn_slice (ph_f (pf_var (pv 0))) (pod_some (pf_var (pv 2))) (pod_some (pf_n (pn_op op_addA snd_add (ph_n (pn_op op_addA snd_add (ph_f (pf_var (pv 2))) (ph_n (pn_f (pf_kint (by rfl) T.c_MOST_DIGITS))))) (ph_n (pn_f pf_int))))))))
    (pds_cons (pds_setF (i := 4) sc_read_integer.nd rfl (.inl rfl) (pf_n (pn_op op_sub snd_sub (ph_n (pn_bi call_lenA snd_len (by rfl) T.b_len bt_len (pah_cons (ph_f (pf_var (pv 3))) pah_nil))) (ph_n (pn_bi call_lenA snd_len (by rfl) T.b_len bt_len (pah_cons (ph_n (pn_lstrip (pf_var (pv 3)) (pad_cons (pf_kstr (by rfl) T.c_DIGITS) pad_nil))) pah_nil))))))
    (pds_cons (pds_if (ptd_cmp (op_eqA (hu64 hr)) snd_eq (nomark _) (ph_f (pf_var (pv 4))) (ph_n (pn_f pf_int))) (pds_one pds_never) pds_nil)
    (pds_cons (pds_if (ptd_w (pwd_and (ptd_cmp (op_eqA (hu64 hr)) snd_eq (nomark _) (ph_n (pn_ix ix_seq snd_ix (ph_f (pf_var (pv 3))) (ph_n (pn_f pf_int)) (fun _ _ => rfl))) (ph_n (pn_f pf_str))) (pwd_and1 (ptd_cmp op_gt snd_gt (nomark _) (ph_f (pf_var (pv 2))) (ph_f (pf_var (pv 1))))))) (pds_one pds_never) pds_nil)
    (pds_cons (pds_if (ptd_w (pwd_and (ptd_cmp (op_eqA (hu64 hr)) snd_eq (nomark _) (ph_n (pn_ix ix_seq snd_ix (ph_f (pf_var (pv 3))) (ph_n (pn_f pf_int)) (fun _ _ => rfl))) (ph_n (pn_f pf_str))) (pwd_and1 (ptd_cmp op_gt snd_gt (nomark _) (ph_f (pf_var (pv 4))) (ph_n (pn_f pf_int)))))) (pds_one pds_never) pds_nil)
    (pds_cons (pds_if (ptd_cmp op_gt snd_gt (nomark _) (ph_f (pf_var (pv 4))) (ph_n (pn_f (pf_kint (by rfl) T.c_MOST_DIGITS)))) (pds_one pds_never) pds_nil)
    (pds_one (pds_ret (pn_f (pf_tup (pad_cons (pf_n (pn_ty call_int_str snd_intS (by rfl) T.b_int bt_int (pah_cons (ph_n (pn_slice (ph_f (pf_var (pv 0))) (pod_some (pf_var (pv 1))) (pod_some (pf_n (pn_op op_addA snd_add (ph_f (pf_var (pv 2))) (ph_f (pf_var (pv 4)))))))) pah_nil))) (pad_cons (pf_n (pn_op op_addA snd_add (ph_f (pf_var (pv 2))) (ph_f (pf_var (pv 4))))) pad_nil)))))))))))))) hS
theorem der_read_string {f : Addr} {fd : FuncData} (A : At1 K mg "_read_string" s_read_string p_read_string f fd) (T : Txt K w mg) {k : Nat} {S : Sf} (hS : ∀ cs c outs, S cs = .ok (c, outs) → cs.length = 2 ∧ runD 8 m_read_string cs = .ok (c, outs)) : DFn P w K mg base "_read_string" (k + 1) S :=
  dfn_ok A sc_read_string (by decide) m_read_string (fun cdv A outer s H E hr =>
    (pds_cons (pds_set (i := 2) sc_read_string.nd rfl (.inl rfl) (pn_lst pad_nil))
    (pds_one (pds_while PassesOwn.never (ptd_tru (ph_n (pn_f pf_bl))) (pds_cons (pds_setF (i := 3) sc_read_string.nd rfl (.inl rfl) (pf_n (pn_find3 (pf_var (pv 0)) (pad_cons pf_str (pad_cons (pf_var (pv 1)) pad_nil)))))
    (pds_cons (pds_setF (i := 4) sc_read_string.nd rfl (.inl rfl) (pf_n (pn_if (ptd_cmp op_ltA snd_lt (nomark _) (ph_f (pf_var (pv 3))) (ph_n (pn_f pf_int))) (pn_bi call_lenA snd_len (by rfl) T.b_len bt_len (pah_cons (ph_f (pf_var (pv 0))) pah_nil)) (pn_f (pf_var (pv 3))))))
    (pds_cons (pds_setF (i := 5) sc_read_string.nd rfl (.inl rfl) (pf_n (pn_find4 (pf_var (pv 0)) (pad_cons pf_str (pad_cons (pf_var (pv 1)) (pad_cons (pf_var (pv 4)) pad_nil))))))
    (pds_cons (pds_if (ptd_cmp op_ge snd_ge (nomark _) (ph_f (pf_var (pv 5))) (ph_n (pn_f pf_int))) (pds_one (pds_setF (i := 4) sc_read_string.nd rfl (.inl rfl) (pf_var (pv 5)))) pds_nil)
    (pds_cons (pds_setF (i := 6) sc_read_string.nd rfl (.inl rfl) (pf_n (pn_find4 (pf_var (pv 0)) (pad_cons pf_str (pad_cons (pf_var (pv 1)) (pad_cons (pf_var (pv 4)) pad_nil))))))
    (pds_cons (pds_if (ptd_cmp op_ge snd_ge (nomark _) (ph_f (pf_var (pv 6))) (ph_n (pn_f pf_int))) (pds_one pds_never) pds_nil)
    (pds_cons (pds_app (i := 2) (pv 2) (pf_n (pn_slice (ph_f (pf_var (pv 0))) (pod_some (pf_var (pv 1))) (pod_some (pf_var (pv 4))))))
    (pds_cons (pds_if (ptd_w (pwd_and (ptd_cmp op_ltA snd_lt (nomark _) (ph_f (pf_var (pv 5))) (ph_n (pn_f pf_int))) (pwd_and1 (ptd_cmp op_ltA snd_lt (nomark _) (ph_f (pf_var (pv 3))) (ph_n (pn_f pf_int)))))) (pds_one pds_never) pds_nil)
    (pds_cons (pds_if (ptd_cmp op_ltA snd_lt (nomark _) (ph_f (pf_var (pv 5))) (ph_n (pn_f pf_int))) (pds_one (pds_ret (pn_f (pf_tup (pad_cons (pf_n (pn_join (ph_n (pn_f pf_str)) (ph_var (pv 2)))) (pad_cons (pf_n (pn_op op_addA snd_add (ph_f (pf_var (pv 3))) (ph_n (pn_f pf_int)))) pad_nil)))))) pds_nil)
    (pds_cons (pds_setF (i := 7) sc_read_string.nd rfl (.inl rfl) (pf_n (pn_slice (ph_f (pf_var (pv 0))) (pod_some (pf_n (pn_op op_addA snd_add (ph_f (pf_var (pv 5))) (ph_n (pn_f pf_int))))) (pod_some (pf_n (pn_op op_addA snd_add (ph_f (pf_var (pv 5))) (ph_n (pn_f pf_int))))))))
    (pds_cons (pds_if (ptd_notInK T.c_ESCAPES (by rfl) (pf_var (pv 7))) (pds_one pds_never) pds_nil)
    (pds_cons (pds_app (i := 2) (pv 2) (pf_n (pn_ixK T.c_ESCAPES (by rfl) (pf_var (pv 7)) (fun _ _ => rfl))))
    (pds_one (pds_setF (i := 1) sc_read_string.nd rfl (.inl rfl) (pf_n (pn_op op_addA snd_add (ph_f (pf_var (pv 5))) (ph_n (pn_f pf_int)))))))))))))))))))))) hS
theorem der_read_tuple {f : Addr} {fd : FuncData} (A : At1 K mg "_read_tuple" s_read_tuple p_read_tuple f fd) (T : Txt K w mg) {S_read_value : Sf} {j_read_value : Nat} (c_read_value : DFn P w K mg base "_read_value" j_read_value S_read_value) {k : Nat} (h_read_value : j_read_value ≤ k) {S : Sf} (hS : ∀ cs c outs, S cs = .ok (c, outs) → cs.length = 3 ∧ runD 6 (m_read_tuple S_read_value) cs = .ok (c, outs)) : DFn P w K mg base "_read_tuple" (k + 1) S :=
  dfn_ok A sc_read_tuple (by decide) (m_read_tuple S_read_value) (fun cdv A outer s H E hr =>
    (pds_cons (pds_if (ptd_cmp (op_eqA (hu64 hr)) snd_eq (nomark _) (ph_n (pn_slice (ph_f (pf_var (pv 0))) (pod_some (pf_var (pv 1))) (pod_some (pf_n (pn_op op_addA snd_add (ph_f (pf_var (pv 1))) (ph_n (pn_f pf_int))))))) (ph_n (pn_f pf_str))) (pds_one (pds_ret (pn_f (pf_tup (pad_cons (pf_tup pad_nil) (pad_cons (pf_n (pn_op op_addA snd_add (ph_f (pf_var (pv 1))) (ph_n (pn_f pf_int)))) pad_nil)))))) pds_nil)
    (pds_cons (pds_set (i := 3) sc_read_tuple.nd rfl (.inl rfl) (pn_lst pad_nil))
    (pds_one (pds_while PassesOwn.never (ptd_tru (ph_n (pn_f pf_bl))) (pds_cons (pds_asg (pf_n (pn_cd c_read_value hr h_read_value (by rfl) (pag_cons (pf_var (pv 0)) (pag_cons (pf_var (pv 1)) (pag_cons (pf_var (pv 2)) pag_nil))))) (pgd_tup rfl (pgds_cons (pgd_name (i := 4) sc_read_tuple.nd rfl (.inl rfl)) (pgds_cons (pgd_name (i := 1) sc_read_tuple.nd rfl (.inl rfl)) pgds_nil)) rfl))
    (pds_cons (pds_app (i := 3) (pv 3) (pf_var (pv 4)))
    (pds_cons (pds_setF (i := 5) sc_read_tuple.nd rfl (.inl rfl) (pf_n (pn_slice (ph_f (pf_var (pv 0))) (pod_some (pf_var (pv 1))) (pod_some (pf_n (pn_op op_addA snd_add (ph_f (pf_var (pv 1))) (ph_n (pn_f pf_int))))))))
    (pds_cons (pds_if (ptd_cmp (op_eqA (hu64 hr)) snd_eq (nomark _) (ph_f (pf_var (pv 5))) (ph_n (pn_f pf_str))) (pds_one (pds_ret (pn_f (pf_tup (pad_cons (pf_n (pn_ty call_tupleG snd_tuple (by rfl) T.b_tuple bt_tuple (pah_cons (ph_var (pv 3)) pah_nil))) (pad_cons (pf_n (pn_op op_addA snd_add (ph_f (pf_var (pv 1))) (ph_n (pn_f pf_int)))) pad_nil)))))) pds_nil)
    (pds_cons (pds_if (ptd_cmp (op_neA (hu64 hr)) snd_ne (nomark _) (ph_f (pf_var (pv 5))) (ph_n (pn_f pf_str))) (pds_one pds_never) pds_nil)
    (pds_one (pds_aug (i := 1) sc_read_tuple.nd rfl (.inl rfl) pf_int iop_addA snd_iadd)))))))))))) hS
theorem der_law_cell {f : Addr} {fd : FuncData} (A : At1 K mg "_law_cell" s_law_cell p_law_cell f fd) (T : Txt K w mg) {k : Nat} {S : Sf} (hS : ∀ cs c outs, S cs = .ok (c, outs) → cs.length = 2 ∧ runD 2 m_law_cell cs = .ok (c, outs)) : DFn P w K mg base "_law_cell" (k + 1) S :=
  dfn_ok A sc_law_cell (by decide) m_law_cell (fun cdv A outer s H E hr =>
    (pds_cons (pds_if (ptd_cmp op_ltA snd_lt (nomark _) (ph_f (pf_var (pv 1))) (ph_n (pn_bi call_lenA snd_len (by rfl) T.b_len bt_len (pah_cons (ph_f (pf_var (pv 0))) pah_nil)))) (pds_one (pds_ret (pn_ix ix_seq snd_ix (ph_f (pf_var (pv 0))) (ph_f (pf_var (pv 1))) (fun _ _ => rfl)))) pds_nil)
    (pds_one (pds_ret (pn_f pf_int))))) hS
theorem der_law_digits {f : Addr} {fd : FuncData} (A : At1 K mg "_law_digits" s_law_digits p_law_digits f fd) (T : Txt K w mg) {S_law_cell : Sf} {j_law_cell : Nat} (c_law_cell : DFn P w K mg base "_law_cell" j_law_cell S_law_cell) {k : Nat} (h_law_cell : j_law_cell ≤ k) {S : Sf} (hS : ∀ cs c outs, S cs = .ok (c, outs) → cs.length = 3 ∧ runD 8 (m_law_digits_2638e9 S_law_cell) cs = .ok (c, outs)) : DFn P w K mg base "_law_digits" (k + 1) S :=
  dfn_ok A sc_law_digits (by decide) (m_law_digits_2638e9 S_law_cell) (fun cdv A outer s H E hr =>
    (pds_cons (pds_set (i := 3) sc_law_digits.nd rfl (.inl rfl) (pn_lst pad_nil))
    (pds_cons (pds_for PassesOwn.never rfl (pid_rng2 (by rfl) T.b_range (pad_cons (pf_var (pv 1)) (pad_cons (pf_var (pv 2)) pad_nil))) (pgd_name (i := 4) sc_law_digits.nd rfl (.inl rfl)) (pds_cons (pds_if (ptd_cmp op_gt snd_gt (nomark _) (ph_n (pn_bi call_lenA snd_len (by rfl) T.b_len bt_len (pah_cons (ph_var (pv 3)) pah_nil))) (ph_n (pn_f pf_int))) (pds_one pds_break) pds_nil)
    (pds_cons (pds_setF (i := 5) sc_law_digits.nd rfl (.inl rfl) (pf_n (pn_cd c_law_cell hr h_law_cell (by rfl) (pag_cons (pf_var (pv 0)) (pag_cons (pf_var (pv 4)) pag_nil)))))
    (pds_cons (pds_if (ptd_cmp op_ltA snd_lt (nomark _) (ph_f (pf_var (pv 5))) (ph_n (pn_f pf_int))) (pds_one (pds_setF (i := 5) sc_law_digits.nd rfl (.inl rfl) (pf_n (pn_op op_sub snd_sub (ph_n (pn_f pf_int)) (ph_n (pn_op op_mulA snd_mul (ph_n (pn_f pf_int)) (ph_f (pf_var (pv 5))))))))) pds_nil)
    (pds_one (pds_if (ptd_cmp op_ge snd_ge (nomark _) (ph_f (pf_var (pv 5))) (ph_n (pn_op op_pow snd_pow (ph_n (pn_f pf_int)) (ph_n (pn_f pf_int))))) (pds_one (pds_for PassesOwn.never rfl (pid_rng1 (by rfl) T.b_range (pad_cons pf_int pad_nil)) (pgd_name (i := 6) sc_law_digits.nd rfl (.inl rfl)) (pds_one (pds_if (ptd_cmp op_gt snd_gt (nomark _) (ph_f (pf_var (pv 5))) (ph_n (pn_f pf_int))) (pds_cons (pds_app (i := 3) (pv 3) (pf_n (pn_op op_modA snd_mod (ph_n (pn_ty call_int1 snd_int (by rfl) T.b_int bt_int (pah_cons (ph_f (pf_var (pv 5))) pah_nil))) (ph_n (pn_f pf_int)))))
    (pds_one (pds_setF (i := 5) sc_law_digits.nd rfl (.inl rfl) (pf_n (pn_op op_fdivA snd_fdiv (ph_f (pf_var (pv 5))) (ph_n (pn_f pf_int))))))) pds_nil)))) (pds_cons (pds_setF (i := 7) sc_law_digits.nd rfl (.inl rfl) (pf_n (pn_op op_modA snd_mod (ph_n (pn_ty call_int1 snd_int (by rfl) T.b_int bt_int (pah_cons (ph_n (pn_op op_addA snd_add (ph_n (pn_op op_addA snd_add (ph_n (pn_op op_mulA snd_mul (ph_f (pf_var (pv 5))) (ph_n (pn_f pf_int)))) (ph_n (pn_op op_mulA snd_mul (ph_f (pf_var (pv 4))) (ph_n (pn_f pf_int)))))) (ph_n (pn_f pf_int)))) pah_nil))) (ph_n (pn_f pf_int)))))
    (pds_one (pds_for PassesOwn.never rfl (pid_rng1 (by rfl) T.b_range (pad_cons pf_int pad_nil)) (pgd_name (i := 6) sc_law_digits.nd rfl (.inl rfl)) (pds_cons (pds_setF (i := 7) sc_law_digits.nd rfl (.inl rfl) (pf_n (pn_op op_modA snd_mod (ph_n (pn_ty call_int1 snd_int (by rfl) T.b_int bt_int (pah_cons (ph_n (pn_op op_addA snd_add (ph_n (pn_op op_addA snd_add (ph_n (pn_op op_mulA snd_mul (ph_f (pf_var (pv 7))) (ph_n (pn_f pf_int)))) (ph_n (pn_op op_mulA snd_mul (ph_n (pn_f pf_int)) (ph_f (pf_var (pv 6))))))) (ph_n (pn_f pf_int)))) pah_nil))) (ph_n (pn_f pf_int)))))
    (pds_one (pds_app (i := 3) (pv 3) (pf_n (pn_op op_modA snd_mod (ph_n (pn_ty call_int1 snd_int (by rfl) T.b_int bt_int (pah_cons (ph_n (pn_op op_fdivA snd_fdiv (ph_f (pf_var (pv 7))) (ph_n (pn_f pf_int)))) pah_nil))) (ph_n (pn_f pf_int))))))))))))))))
    (pds_one (pds_retS 3 (pv 3)))))) hS
theorem der_law_draw {f : Addr} {fd : FuncData} (A : At1 K mg "_law_draw" s_law_draw p_law_draw f fd) (T : Txt K w mg) {k : Nat} {S : Sf} (hS : ∀ cs c outs, S cs = .ok (c, outs) → cs.length = 2 ∧ runD 3 m_law_draw cs = .ok (c, outs)) : DFn P w K mg base "_law_draw" (k + 1) S :=
  dfn_ok A sc_law_draw (by decide) m_law_draw (fun cdv A outer s H E hr =>
    (pds_cons (pds_setF (i := 2) sc_law_draw.nd rfl (.inl rfl) (pf_n (pn_ix ix_seq snd_ix (ph_var (pv 0)) (ph_n (pn_f pf_int)) (fun _ _ => rfl))))
    (pds_cons (pds_lput (i := 0) (pv 0) pf_int (pf_n (pn_op op_addA snd_add (ph_f (pf_var (pv 2))) (ph_n (pn_f pf_int)))))
    (pds_cons (pds_if (ptd_cmp op_ltA snd_lt (nomark _) (ph_f (pf_var (pv 2))) (ph_n (pn_bi call_lenA snd_len (by rfl) T.b_len bt_len (pah_cons (ph_n (pn_ix ix_seq snd_ix (ph_var (pv 0)) (ph_n (pn_f pf_int)) (fun _ _ => rfl))) pah_nil)))) (pds_one (pds_ret (pn_op op_modA snd_mod (ph_n (pn_ty call_int1 snd_int (by rfl) T.b_int bt_int (pah_cons (ph_n (pn_ix ix_seq snd_ix (ph_n (pn_ix ix_seq snd_ix (ph_var (pv 0)) (ph_n (pn_f pf_int)) (fun _ _ => rfl))) (ph_f (pf_var (pv 2))) (fun _ _ => rfl))) pah_nil))) (ph_f (pf_var (pv 1)))))) pds_nil)
    (pds_one (pds_ret (pn_op op_modA snd_mod (ph_n (pn_ty call_int1 snd_int (by rfl) T.b_int bt_int (pah_cons (ph_n (pn_op op_mulA snd_mul (ph_f (pf_var (pv 2))) (ph_n (pn_f pf_int)))) pah_nil))) (ph_f (pf_var (pv 1)))))))))) hS
theorem der_law_same {f : Addr} {fd : FuncData} (A : At1 K mg "_law_same" s_law_same p_law_same f fd) (T : Txt K w mg) {S_law_same : Sf} {j_law_same : Nat} (c_law_same : DFn P w K mg base "_law_same" j_law_same S_law_same) {k : Nat} (h_law_same : j_law_same ≤ k) {S : Sf} (hS : ∀ cs c outs, S cs = .ok (c, outs) → cs.length = 2 ∧ runD 3 (m_law_same S_law_same) cs = .ok (c, outs)) : DFn P w K mg base "_law_same" (k + 1) S :=
  dfn_ok A sc_law_same (by decide) (m_law_same S_law_same) (fun cdv A outer s H E hr =>
    (pds_cons (pds_if (ptd_tru (ph_n (pn_f (pf_isi tyOk_tuple (by rfl) T.b_isinstance (ph_f (pf_var (pv 1))) (by rfl) T.b_tuple bt_tuple)))) (pds_cons (pds_if (ptd_w (pwd_or (ptd_not (ptd_tru (ph_n (pn_f (pf_isi tyOk_tuple (by rfl) T.b_isinstance (ph_f (pf_var (pv 0))) (by rfl) T.b_tuple bt_tuple))))) (pwd_or1 (ptd_cmp (op_neA (hu64 hr)) snd_ne (nomark _) (ph_n (pn_bi call_lenA snd_len (by rfl) T.b_len bt_len (pah_cons (ph_f (pf_var (pv 0))) pah_nil))) (ph_n (pn_bi call_lenA snd_len (by rfl) T.b_len bt_len (pah_cons (ph_f (pf_var (pv 1))) pah_nil))))))) (pds_one (pds_ret (pn_f pf_bl))) pds_nil)
    (pds_cons (pds_for PassesOwn.never rfl (pid_rng1 (by rfl) T.b_range (pad_cons (pf_n (pn_bi call_lenA snd_len (by rfl) T.b_len bt_len (pah_cons (ph_f (pf_var (pv 1))) pah_nil))) pad_nil)) (pgd_name (i := 2) sc_law_same.nd rfl (.inl rfl)) (pds_one (pds_if (ptd_not (ptd_tru (ph_n (pn_cd c_law_same hr h_law_same (by rfl) (pag_cons (pf_n (pn_ix ix_seq snd_ix (ph_f (pf_var (pv 0))) (ph_f (pf_var (pv 2))) (fun _ _ => rfl))) (pag_cons (pf_n (pn_ix ix_seq snd_ix (ph_f (pf_var (pv 1))) (ph_f (pf_var (pv 2))) (fun _ _ => rfl))) pag_nil)))))) (pds_one (pds_ret (pn_f pf_bl))) pds_nil)))
    (pds_one (pds_ret (pn_f pf_bl))))) pds_nil)
    (pds_cons (pds_if (ptd_cmp op_isA snd_is (nomark _) (ph_f (pf_var (pv 1))) (ph_n (pn_f pf_non))) (pds_one (pds_ret (pn_cmp op_isA snd_is (nomark _) (ph_f (pf_var (pv 0))) (ph_n (pn_f pf_non))))) pds_nil)
    (pds_cons (pds_if (ptd_cmp op_isA snd_is (nomark _) (ph_f (pf_var (pv 1))) (ph_n (pn_f pf_bl))) (pds_one (pds_ret (pn_cmp op_isA snd_is (nomark _) (ph_f (pf_var (pv 0))) (ph_n (pn_f pf_bl))))) pds_nil)
    (pds_cons (pds_if (ptd_cmp op_isA snd_is (nomark _) (ph_f (pf_var (pv 1))) (ph_n (pn_f pf_bl))) (pds_one (pds_ret (pn_cmp op_isA snd_is (nomark _) (ph_f (pf_var (pv 0))) (ph_n (pn_f pf_bl))))) pds_nil)
    (pds_cons (pds_if (ptd_tru (ph_n (pn_f (pf_isi tyOk_int (by rfl) T.b_isinstance (ph_f (pf_var (pv 1))) (by rfl) T.b_int bt_int)))) (pds_one (pds_ret (pn_and (pn_f (pf_isi tyOk_int (by rfl) T.b_isinstance (ph_f (pf_var (pv 0))) (by rfl) T.b_int bt_int)) (pn_and (pn_f (pf_not (pn_f (pf_isi tyOk_bool (by rfl) T.b_isinstance (ph_f (pf_var (pv 0))) (by rfl) T.b_bool bt_bool)))) (pn_one (pn_cmp (op_eqA (hu64 hr)) snd_eq (nomark _) (ph_f (pf_var (pv 0))) (ph_f (pf_var (pv 1))))))))) pds_nil)
    (pds_one (pds_ret (pn_and (pn_f (pf_isi tyOk_str (by rfl) T.b_isinstance (ph_f (pf_var (pv 0))) (by rfl) T.b_str bt_str)) (pn_one (pn_cmp (op_eqA (hu64 hr)) snd_eq (nomark _) (ph_f (pf_var (pv 0))) (ph_f (pf_var (pv 1)))))))))))))) hS
theorem der_law_plain {f : Addr} {fd : FuncData} (A : At1 K mg "_law_plain" s_law_plain p_law_plain f fd) (T : Txt K w mg) {S_law_plain : Sf} {j_law_plain : Nat} (c_law_plain : DFn P w K mg base "_law_plain" j_law_plain S_law_plain) {k : Nat} (h_law_plain : j_law_plain ≤ k) {S : Sf} (hS : ∀ cs c outs, S cs = .ok (c, outs) → cs.length = 1 ∧ runD 2 (m_law_plain S_law_plain) cs = .ok (c, outs)) : DFn P w K mg base "_law_plain" (k + 1) S :=
  dfn_ok A sc_law_plain (by decide) (m_law_plain S_law_plain) (fun cdv A outer s H E hr =>
    (pds_cons (pds_if (ptd_cmp op_isA snd_is (nomark _) (ph_f (pf_var (pv 0))) (ph_n (pn_f pf_non))) (pds_one (pds_ret (pn_f pf_str))) pds_nil)
    (pds_cons (pds_if (ptd_cmp op_isA snd_is (nomark _) (ph_f (pf_var (pv 0))) (ph_n (pn_f pf_bl))) (pds_one (pds_ret (pn_f pf_str))) pds_nil)
    (pds_cons (pds_if (ptd_cmp op_isA snd_is (nomark _) (ph_f (pf_var (pv 0))) (ph_n (pn_f pf_bl))) (pds_one (pds_ret (pn_f pf_str))) pds_nil)
    (pds_cons (pds_if (ptd_tru (ph_n (pn_f (pf_isi tyOk_int (by rfl) T.b_isinstance (ph_f (pf_var (pv 0))) (by rfl) T.b_int bt_int)))) (pds_one (pds_ret (pn_ty call_str_int snd_str (by rfl) T.b_str bt_str (pah_cons (ph_f (pf_var (pv 0))) pah_nil)))) pds_nil)
    (pds_cons (pds_if (ptd_tru (ph_n (pn_f (pf_isi tyOk_tuple (by rfl) T.b_isinstance (ph_f (pf_var (pv 0))) (by rfl) T.b_tuple bt_tuple)))) (pds_one (pds_ret (pn_op op_addA snd_add (ph_n (pn_op op_addA snd_add (ph_n (pn_f pf_str)) (ph_n (pn_join (ph_n (pn_f pf_str)) (ph_n (pn_lc (own := [("one", 1)]) rfl sc_law_plain.nd (pid_seq (pf_var (pv 0))) (blkOk_by (N := N_law_plain) (sc := defScope s_law_plain) (by decide +kernel)) (tgOk_n 1) (by decide) (fun _ _ _ _ _ => (pgd_name (i := 1) sc_law_plain.nd rfl (.inl rfl))) (fun _ _ _ _ _ => ptsd_nil) (fun _ _ _ _ _ => (pf_n (pn_cd c_law_plain hr h_law_plain (by rfl) (pag_cons (pf_var (pv 1)) pag_nil)))))))))) (ph_n (pn_f pf_str))))) pds_nil)
    (pds_one (pds_ret (pn_op op_addA snd_add (ph_n (pn_strOp op_addA snd_add (pnt_repl (pnt_repl (pnt_repl1 (pn_f (pf_var (pv 0)))))))) (ph_n (pn_f pf_str))))))))))) hS
theorem der_law_value {f : Addr} {fd : FuncData} (A : At1 K mg "_law_value" s_law_value p_law_value f fd) (T : Txt K w mg) {S_law_draw : Sf} {j_law_draw : Nat} (c_law_draw : DFn P w K mg base "_law_draw" j_law_draw S_law_draw) {S_law_value : Sf} {j_law_value : Nat} (c_law_value : DFn P w K mg base "_law_value" j_law_value S_law_value) {k : Nat} (h_law_draw : j_law_draw ≤ k) (h_law_value : j_law_value ≤ k) {S : Sf} (hS : ∀ cs c outs, S cs = .ok (c, outs) → cs.length = 2 ∧ runD 6 (m_law_value S_law_draw S_law_value) cs = .ok (c, outs)) : DFn P w K mg base "_law_value" (k + 1) S :=
  dfn_ok A sc_law_value (by decide) (m_law_value S_law_draw S_law_value) (fun cdv A outer s H E hr =>
    (pds_cons (pds_setF (i := 2) sc_law_value.nd rfl (.inl rfl) (pf_n (pn_cd c_law_draw hr h_law_draw (by rfl) (pag_conS (pv 0) (pag_cons pf_int pag_nil)))))
    (pds_cons (pds_if (ptd_w (pwd_and (ptd_cmp op_ltA snd_lt (nomark _) (ph_f (pf_var (pv 2))) (ph_n (pn_f pf_int))) (pwd_and1 (ptd_cmp op_gt snd_gt (nomark _) (ph_f (pf_var (pv 1))) (ph_n (pn_f pf_int)))))) (pds_one (pds_ret (pn_ty call_tupleG snd_tuple (by rfl) T.b_tuple bt_tuple (pah_cons (ph_n (pn_lc (own := [("k", 5)]) rfl sc_law_value.nd (pid_rng1 (by rfl) T.b_range (pad_cons (pf_n (pn_cd c_law_draw hr h_law_draw (by rfl) (pag_conS (pv 0) (pag_cons pf_int pag_nil)))) pad_nil)) (blkOk_by (N := N_law_value) (sc := defScope s_law_value) (by decide +kernel)) (tgOk_n 5) (by decide) (fun _ _ _ _ _ => (pgd_name (i := 5) sc_law_value.nd rfl (.inl rfl))) (fun _ _ _ _ _ => ptsd_nil) (fun _ _ _ _ _ => (pf_n (pn_cd c_law_value hr h_law_value (by rfl) (pag_conS (pv 0) (pag_cons (pf_n (pn_op op_sub snd_sub (ph_f (pf_var (pv 1))) (ph_n (pn_f pf_int)))) pag_nil))))))) pah_nil)))) pds_nil)
    (pds_cons (pds_if (ptd_cmp (op_eqA (hu64 hr)) snd_eq (nomark _) (ph_f (pf_var (pv 2))) (ph_n (pn_f pf_int))) (pds_one (pds_ret (pn_ix ix_seq snd_ix (ph_n (pn_lst (pad_cons pf_non (pad_cons pf_bl (pad_cons pf_bl pad_nil))))) (ph_n (pn_cd c_law_draw hr h_law_draw (by rfl) (pag_conS (pv 0) (pag_cons pf_int pag_nil)))) (fun _ _ => rfl)))) pds_nil)
    (pds_cons (pds_if (ptd_cmp (op_eqA (hu64 hr)) snd_eq (nomark _) (ph_f (pf_var (pv 2))) (ph_n (pn_f pf_int))) (pds_cons (pds_setF (i := 3) sc_law_value.nd rfl (.inl rfl) (pf_n (pn_op op_sub snd_sub (ph_n (pn_op op_addA snd_add (ph_n (pn_op op_mulA snd_mul (ph_n (pn_cd c_law_draw hr h_law_draw (by rfl) (pag_conS (pv 0) (pag_cons pf_int pag_nil)))) (ph_n (pn_op op_pow snd_pow (ph_n (pn_f pf_int)) (ph_n (pn_f pf_int)))))) (ph_n (pn_cd c_law_draw hr h_law_draw (by rfl) (pag_conS (pv 0) (pag_cons pf_int pag_nil)))))) (ph_n (pn_f pf_int)))))
    (pds_one (pds_ret (pn_ix ix_seq snd_ix (ph_n (pn_lst (pad_cons (pf_var (pv 3)) (pad_cons (pf_n (pn_op op_sub snd_sub (ph_n (pn_f pf_int)) (ph_f (pf_var (pv 3))))) (pad_cons (pf_n (pn_op op_addA snd_add (ph_n (pn_op op_pow snd_pow (ph_n (pn_f pf_int)) (ph_n (pn_f pf_int)))) (ph_f (pf_var (pv 3))))) (pad_cons pf_int pad_nil)))))) (ph_n (pn_cd c_law_draw hr h_law_draw (by rfl) (pag_conS (pv 0) (pag_cons pf_int pag_nil)))) (fun _ _ => rfl))))) pds_nil)
    (pds_cons (pds_if (ptd_cmp (op_eqA (hu64 hr)) snd_eq (nomark _) (ph_f (pf_var (pv 2))) (ph_n (pn_f pf_int))) (pds_one (pds_ret (pn_op op_sub snd_sub (ph_n (pn_cd c_law_draw hr h_law_draw (by rfl) (pag_conS (pv 0) (pag_cons pf_int pag_nil)))) (ph_n (pn_f pf_int))))) pds_nil)
    (pds_cons (pds_setF (i := 4) sc_law_value.nd rfl (.inr rfl) pf_str)
    (pds_one (pds_ret (pn_join (ph_n (pn_f pf_str)) (ph_n (pn_lc (own := [("k", 5)]) rfl sc_law_value.nd (pid_rng1 (by rfl) T.b_range (pad_cons (pf_n (pn_cd c_law_draw hr h_law_draw (by rfl) (pag_conS (pv 0) (pag_cons pf_int pag_nil)))) pad_nil)) (blkOk_by (N := N_law_value) (sc := defScope s_law_value) (by decide +kernel)) (tgOk_n 5) (by decide) (fun _ _ _ _ _ => (pgd_name (i := 5) sc_law_value.nd rfl (.inl rfl))) (fun _ _ _ _ _ => ptsd_nil) (fun _ _ _ _ _ => (pf_n (pn_ix ix_seq snd_ix (ph_f (pf_var (pv 4))) (ph_n (pn_op op_modA snd_mod (ph_n (pn_ty call_int1 snd_int (by rfl) T.b_int bt_int (pah_cons (ph_n (pn_cd c_law_draw hr h_law_draw (by rfl) (pag_conS (pv 0) (pag_cons pf_int pag_nil)))) pah_nil))) (ph_n (pn_bi call_lenA snd_len (by rfl) T.b_len bt_len (pah_cons (ph_f (pf_var (pv 4))) pah_nil))))) (fun _ _ => rfl)))))))))))))))) hS
theorem der_law {f : Addr} {fd : FuncData} (A : At1 K mg "law" s_law p_law f fd) (T : Txt K w mg) {S_law_digits : Sf} {j_law_digits : Nat} (c_law_digits : DFn P w K mg base "_law_digits" j_law_digits S_law_digits) {S_law_value : Sf} {j_law_value : Nat} (c_law_value : DFn P w K mg base "_law_value" j_law_value S_law_value) {S_law_draw : Sf} {j_law_draw : Nat} (c_law_draw : DFn P w K mg base "_law_draw" j_law_draw S_law_draw) {S_law_plain : Sf} {j_law_plain : Nat} (c_law_plain : DFn P w K mg base "_law_plain" j_law_plain S_law_plain) {S_law_same : Sf} {j_law_same : Nat} (c_law_same : DFn P w K mg base "_law_same" j_law_same S_law_same) {S_show_plain : Sf} {j_show_plain : Nat} (c_show_plain : DFn P w K mg base "show_plain" j_show_plain S_show_plain) {S_read_plain : Sf} {j_read_plain : Nat} (c_read_plain : DFn P w K mg base "read_plain" j_read_plain S_read_plain) {k : Nat} (h_law_digits : j_law_digits ≤ k) (h_law_value : j_law_value ≤ k) (h_law_draw : j_law_draw ≤ k) (h_law_plain : j_law_plain ≤ k) (h_law_same : j_law_same ≤ k) (h_show_plain : j_show_plain ≤ k) (h_read_plain : j_read_plain ≤ k) {S : Sf} (hS : ∀ cs c outs, S cs = .ok (c, outs) → cs.length = 1 ∧ runD 6 (m_law_ec53e0 S_law_digits S_law_value S_law_draw S_law_plain S_law_same S_show_plain S_read_plain) cs = .ok (c, outs)) : FnD P w K mg base (k + 1) f fd p_law S :=
  DFn.law A sc_law (by decide) (m_law_ec53e0 S_law_digits S_law_value S_law_draw S_law_plain S_law_same S_show_plain S_read_plain) (fun cdv A outer s H E hr =>
    (pds_cons (pds_set (i := 1) sc_law.nd rfl (.inl rfl) (pn_lst (pad_cons (pf_n (pn_cd c_law_digits hr h_law_digits (by rfl) (pag_cons (pf_var (pv 0)) (pag_cons pf_int (pag_cons pf_int pag_nil))))) (pad_cons pf_int pad_nil))))
    (pds_cons (pds_for PassesOwn.never rfl (pid_rng1 (by rfl) T.b_range (pad_cons pf_int pad_nil)) (pgd_name (i := 2) sc_law.nd rfl (.inl rfl)) (pds_cons (pds_setF (i := 3) sc_law.nd rfl (.inl rfl) (pf_n (pn_cd c_law_value hr h_law_value (by rfl) (pag_conS (pv 1) (pag_cons pf_int pag_nil)))))
    (pds_cons (pds_for PassesOwn.never rfl (pid_rng1 (by rfl) T.b_range (pad_cons (pf_n (pn_ix ix_seq snd_ix (ph_n (pn_lst (pad_cons pf_int (pad_cons pf_int (pad_cons pf_int (pad_cons pf_int pad_nil)))))) (ph_n (pn_cd c_law_draw hr h_law_draw (by rfl) (pag_conS (pv 1) (pag_cons pf_int pag_nil)))) (fun _ _ => rfl))) pad_nil)) (pgd_name (i := 4) sc_law.nd rfl (.inl rfl)) (pds_one (pds_setF (i := 3) sc_law.nd rfl (.inl rfl) (pf_tup (pad_cons (pf_var (pv 3)) pad_nil)))))
    (pds_cons (pds_setF (i := 5) sc_law.nd rfl (.inl rfl) (pf_n (pn_cd c_law_plain hr h_law_plain (by rfl) (pag_cons (pf_var (pv 3)) pag_nil))))
    (pds_one (pds_if (ptd_w (pwd_or (ptd_not (ptd_tru (ph_n (pn_cd c_law_same hr h_law_same (by rfl) (pag_cons (pf_n (pn_cd c_show_plain hr h_show_plain (by rfl) (pag_cons (pf_var (pv 3)) pag_nil))) (pag_cons (pf_var (pv 5)) pag_nil)))))) (pwd_or1 (ptd_not (ptd_tru (ph_n (pn_cd c_law_same hr h_law_same (by rfl) (pag_cons (pf_n (pn_cd c_read_plain hr h_read_plain (by rfl) (pag_cons (pf_var (pv 5)) pag_nil))) (pag_cons (pf_var (pv 3)) pag_nil))))))))) (pds_one (pds_ret (pn_f pf_bl))) pds_nil))))))
    (pds_one (pds_ret (pn_f pf_bl)))))) hS
end
open Sh ShW ShN
noncomputable def S_show_plainP : Nat → Sf
  | 0 => fun _ => .no
  | d + 1 => spN 1 2 (m_show_plain (S_show_plainP d))
noncomputable abbrev S_show_plain (d : Nat) : Sf := S_show_plainP (d + 1)
theorem sem_show_plain (d : Nat) : ∀ cs c outs, S_show_plain d cs = .ok (c, outs) → cs.length = 1 ∧ runD 2 (m_show_plain (S_show_plainP d)) cs = .ok (c, outs) := spN_sem
noncomputable def S_read_string : Sf := spN 2 8 m_read_string
theorem sem_read_string : ∀ cs c outs, S_read_string cs = .ok (c, outs) → cs.length = 2 ∧ runD 8 m_read_string cs = .ok (c, outs) := spN_sem
noncomputable def S_read_integer : Sf := spN 2 5 m_read_integer
theorem sem_read_integer : ∀ cs c outs, S_read_integer cs = .ok (c, outs) → cs.length = 2 ∧ runD 5 m_read_integer cs = .ok (c, outs) := spN_sem
noncomputable def S_read_tupleP : Nat → Sf
  | 0 => fun _ => .no
  | d + 1 => spN 3 6 (m_read_tuple (spN 3 4 (m_read_value S_read_string (S_read_tupleP d) S_read_integer)))
noncomputable def S_read_value (d : Nat) : Sf := (spN 3 4 (m_read_value S_read_string (S_read_tupleP d) S_read_integer))
noncomputable abbrev S_read_tuple (d : Nat) : Sf := S_read_tupleP (d + 1)
theorem sem_read_value (d : Nat) : ∀ cs c outs, S_read_value d cs = .ok (c, outs) → cs.length = 3 ∧ runD 4 (m_read_value S_read_string (S_read_tupleP d) S_read_integer) cs = .ok (c, outs) := spN_sem
theorem sem_read_tuple (d : Nat) : ∀ cs c outs, S_read_tuple d cs = .ok (c, outs) → cs.length = 3 ∧ runD 6 (m_read_tuple (S_read_value d)) cs = .ok (c, outs) := spN_sem
noncomputable def S_read_plain : Sf := spN 1 3 (m_read_plain (S_read_value 41))
theorem sem_read_plain : ∀ cs c outs, S_read_plain cs = .ok (c, outs) → cs.length = 1 ∧ runD 3 (m_read_plain (S_read_value 41)) cs = .ok (c, outs) := spN_sem
noncomputable def S_law_digits : Sf := spN 3 8 (m_law_digits_2638e9 S_cell)
theorem sem_law_digits : ∀ cs c outs, S_law_digits cs = .ok (c, outs) → cs.length = 3 ∧ runD 8 (m_law_digits_2638e9 S_cell) cs = .ok (c, outs) := spN_sem
noncomputable def S_law_sameP : Nat → Sf
  | 0 => fun _ => .no
  | d + 1 => spN 2 3 (m_law_same (S_law_sameP d))
noncomputable abbrev S_law_same (d : Nat) : Sf := S_law_sameP (d + 1)
theorem sem_law_same (d : Nat) : ∀ cs c outs, S_law_same d cs = .ok (c, outs) → cs.length = 2 ∧ runD 3 (m_law_same (S_law_sameP d)) cs = .ok (c, outs) := spN_sem
noncomputable def S_law_plainP : Nat → Sf
  | 0 => fun _ => .no
  | d + 1 => spN 1 2 (m_law_plain (S_law_plainP d))
noncomputable abbrev S_law_plain (d : Nat) : Sf := S_law_plainP (d + 1)
theorem sem_law_plain (d : Nat) : ∀ cs c outs, S_law_plain d cs = .ok (c, outs) → cs.length = 1 ∧ runD 2 (m_law_plain (S_law_plainP d)) cs = .ok (c, outs) := spN_sem
noncomputable def S_law_valueP : Nat → Sf
  | 0 => fun _ => .no
  | d + 1 => spN 2 6 (m_law_value S_draw (S_law_valueP d))
noncomputable abbrev S_law_value (d : Nat) : Sf := S_law_valueP (d + 1)
theorem sem_law_value (d : Nat) : ∀ cs c outs, S_law_value d cs = .ok (c, outs) → cs.length = 2 ∧ runD 6 (m_law_value S_draw (S_law_valueP d)) cs = .ok (c, outs) := spN_sem
noncomputable abbrev ML : En → Out := m_law_ec53e0 S_law_digits (S_law_value 4) S_draw (S_law_plain 41) (S_law_same 41) (S_show_plain 41) S_read_plain
abbrev NL : Nat := 6
end Lk27

/-! plain values and their texts -/
namespace ShP
open PySem L2 DL PyProof.Rows Md Sh TX TL
def atomT : D → List Nat
  | .none => [78]
  | .bool true => [84]
  | .bool false => [70]
  | .int i => itx i
  | .str s => 34 :: (esc s.cps.toList ++ [34])
  | _ => []
def AtomOk : D → Prop
  | .none => True
  | .bool _ => True
  | .int i => i.natAbs < 10 ^ 30
  | .str s => s.length ≤ 8
  | _ => False
/-- a plain value of at most n levels -/
def Pl : Nat → D → Prop
  | 0 => AtomOk
  | n + 1 => fun d => match d with
    | .tuple ds => ds.length ≤ 3 ∧ ∀ x ∈ ds, Pl n x
    | d => AtomOk d
/-- its text -/
def tx : Nat → D → List Nat
  | 0 => atomT
  | n + 1 => fun d => match d with
    | .tuple ds => 40 :: (jn (ds.map (tx n)) ++ [41])
    | d => atomT d
theorem Pl.cases {n : Nat} {d : D} (h : Pl n d) : (AtomOk d ∧ tx n d = atomT d) ∨ ∃ m ds, n = m + 1 ∧ d = .tuple ds ∧ ds.length ≤ 3 ∧ (∀ x ∈ ds, Pl m x) ∧ tx n d = 40 :: (jn (ds.map (tx m)) ++ [41]) := by
  cases n with
  | zero => exact .inl ⟨h, rfl⟩
  | succ m =>
    cases d with
    | tuple ds => exact .inr ⟨m, ds, rfl, rfl, h.1, h.2, rfl⟩
    | _ => exact .inl ⟨h, rfl⟩
theorem le_sum : ∀ (l : List Nat) (a : Nat), a ∈ l → a ≤ l.sum
  | b :: l, a, h => by
    rw [List.sum_cons]
    rcases List.mem_cons.mp h with rfl | h
    · omega
    · have := le_sum l a h
      omega
theorem part_len {m : Nat} {ds : List D} {B : Nat} (h : (40 :: (jn (ds.map (tx m)) ++ [41])).length ≤ B + 2) : ∀ x ∈ ds, (tx m x).length ≤ B := fun x hx => by
  have h1 := (jn_len (ds.map (tx m))).1
  simp only [List.length_cons, List.length_append, List.length_nil] at h
  have h2 := le_sum _ _ (List.mem_map.mpr ⟨_, List.mem_map.mpr ⟨x, hx, rfl⟩, rfl⟩ : (tx m x).length ∈ (ds.map (tx m)).map List.length)
  have h3 : 0 < ds.length := List.length_pos_of_mem hx
  have h4 : (ds.map (tx m)).length = ds.length := List.length_map _
  omega
end ShP
namespace Lk27
open PySem L2 DL PyProof.Rows Md Sh ShW ShN TX TL ShP
theorem strD_i {i : Int} (h : i.natAbs < 10 ^ 30) : strD [.int i] = .ok (.f (.str (Str.ofString (toString i)))) := if_pos (Nat.lt_of_lt_of_le h (by decide +kernel))
theorem app_str (a b : Str) : (a ++ b).cps.toList = a.cps.toList ++ b.cps.toList := tl_append a b
theorem add_str {a b : Str} (h : a.length + b.length ≤ 100000) : addD (.str a) (.str b) = .ok (.f (.str (a ++ b))) := if_pos (Nat.le_trans h (by decide +kernel))
/-- the written text of a text -/
def wr (s : Str) : Str := one 34 ++ Txt.replace (Txt.replace (Txt.replace s "\\" "\\\\") "\"" "\\\"") "\n" "\\n" ++ one 34
theorem wr_list (s : Str) : (wr s).cps.toList = 34 :: (esc s.cps.toList ++ [34]) := by
  unfold wr
  rw [app_str, app_str, replaced]
  rfl
theorem rep_len (s : Str) : (Txt.replace s "\\" "\\\\").length ≤ 2 * s.length ∧ (Txt.replace (Txt.replace s "\\" "\\\\") "\"" "\\\"").length ≤ 4 * s.length := by
  have g : ∀ (c : Nat) (z : Str), z.length = 2 → ∀ x : Str, (Txt.replace x (one c) z).length ≤ 2 * x.length := fun c z hz x => by
    rw [len_cps, replace1, len_cps x]
    rw [len_cps] at hz
    induction x.cps.toList with
    | nil => simp [rep1]
    | cons a l ih =>
      rw [rep1_cons, List.length_append, List.length_cons]
      split
      · omega
      · simp
        omega
  rw [show (("\\" : String) : Str) = one 92 from s92, show (("\"" : String) : Str) = one 34 from s34]
  have h1 := g 92 "\\\\" (by decide +kernel) s
  have h2 := g 34 "\\\"" (by decide +kernel) (Txt.replace s (one 92) "\\\\")
  exact ⟨h1, by omega⟩
theorem repl_r {s : Str} (h : s.length ≤ 8) {i : Nat} {e : En} (he : mVar i e = .ok (.str s, e)) :
    (m2 addD (mH (m2 addD (mH (mN (mC (.str "\"")))) (mH (mRepl "\n" "\\n" (mRepl "\"" "\\\"" (mRepl "\\" "\\\\" (mN (mVar i)))))))) (mH (mN (mC (.str "\""))))) e = .ok (.f (.str (wr s)), e) := by
  obtain ⟨l1, l2⟩ := rep_len s
  have lw : (wr s).length = (esc s.cps.toList).length + 2 := by rw [len_cps, wr_list]; simp
  have le := (esc_len s.cps.toList).2
  rw [← len_cps] at le
  have lr : (Txt.replace (Txt.replace (Txt.replace s "\\" "\\\\") "\"" "\\\"") "\n" "\\n").length ≤ 16 := by
    rw [len_cps, replaced]
    omega
  have z2 : (("\\\\" : String) : Str).length = 2 := by decide +kernel
  have z3 : (("\\\"" : String) : Str).length = 2 := by decide +kernel
  have z4 : (("\\n" : String) : Str).length = 2 := by decide +kernel
  have z1 : (one 34).length = 1 := rfl
  have q34 : (("\"" : String) : Str) = one 34 := s34
  have a1 : addD (.str (one 34)) (.str (Txt.replace (Txt.replace (Txt.replace s "\\" "\\\\") "\"" "\\\"") "\n" "\\n")) = .ok (.f (.str (one 34 ++ Txt.replace (Txt.replace (Txt.replace s "\\" "\\\\") "\"" "\\\"") "\n" "\\n"))) := add_str (by omega)
  have a2 : addD (.str (one 34 ++ Txt.replace (Txt.replace (Txt.replace s "\\" "\\\\") "\"" "\\\"") "\n" "\\n")) (.str (one 34)) = .ok (.f (.str (wr s))) := add_str (by
    rw [len_cps, app_str, List.length_append, ← len_cps, ← len_cps]
    omega)
  have c1 : s.length + (s.length + 1) * (("\\\\" : String) : Str).length ≤ 16777216 := by rw [z2]; omega
  have c2 : (Txt.replace s "\\" "\\\\").length + ((Txt.replace s "\\" "\\\\").length + 1) * (("\\\"" : String) : Str).length ≤ 16777216 := by rw [z3]; omega
  have c3 : (Txt.replace (Txt.replace s "\\" "\\\\") "\"" "\\\"").length + ((Txt.replace (Txt.replace s "\\" "\\\\") "\"" "\\\"").length + 1) * (("\\n" : String) : Str).length ≤ 16777216 := by rw [z4]; omega
  have e1 : (("\\" : String) : Str) = one 92 := s92
  have e2 : (("\n" : String) : Str) = one 10 := s10
  rw [q34] at a1 a2 c3
  rw [q34]
  obtain ⟨R1, h1⟩ : ∃ R, R = Txt.replace s "\\" "\\\\" := ⟨_, rfl⟩
  rw [← h1] at a1 a2 c2 c3
  obtain ⟨R2, h2⟩ : ∃ R, R = Txt.replace R1 (one 34) "\\\"" := ⟨_, rfl⟩
  rw [← h2] at a1 a2 c3
  obtain ⟨R3, h3⟩ : ∃ R, R = Txt.replace R2 "\n" "\\n" := ⟨_, rfl⟩
  rw [← h3] at a1 a2
  have c1' : s.length + (s.length + 1) * (("\\\\" : String) : Str).length ≤ 16777216 := c1
  simp -implicitDefEqProofs only [m2, mH, mN, mC, mRepl_r, he, Rs.bind_ok, if_pos c1, ← h1, if_pos c2, ← h2, if_pos c3, ← h3]
  simp -implicitDefEqProofs [a1, a2]
end Lk27

namespace Lk27
open PySem L2 DL PyProof.Rows Md Sh ShW ShN TX TL ShP
theorem texts_map : ∀ ys : List Str, textsOf (ys.map D.str) = some ys
  | [] => rfl
  | y :: ys => by
    rw [List.map_cons, textsOf, texts_map ys]
    rfl
theorem joinD_l {a : Str} {ys : List Str} (h : (ys.map (·.length)).sum + ys.length * a.length ≤ 16777216) : joinD (.str a) (.list (ys.map .str)) = .ok (.f (.str (Txt.join a ys))) := by
  have e : joinD (.str a) (.list (ys.map .str)) = (match textsOf (ys.map D.str) with
    | some ys => if (ys.map (·.length)).sum + ys.length * a.length ≤ 16777216 then .ok (.f (.str (Txt.join a ys))) else .no
    | none => .no) := rfl
  rw [e, texts_map]
  exact if_pos h
theorem law_plain_atom {S : Sf} {d : D} (h : AtomOk d) : ∃ s, spN 1 2 (m_law_plain S) [.f d] = .ok (.f (.str s), []) ∧ s.cps.toList = atomT d := by
  cases d with
  | none =>
    refine ⟨"N", spN_r rfl (run_rt (e := [some (.f .none), none]) rfl rfl ?_), by decide +kernel⟩
    unfold m_law_plain
    (first | exact DL.wp_ret (by simp -implicitDefEqProofs [] <;> (repeat' (first | rfl | apply And.intro))) | exact DL.wp_rt (by simp -implicitDefEqProofs [] <;> (repeat' (first | rfl | apply And.intro))))
  | bool b =>
    cases b with
    | true =>
      refine ⟨"T", spN_r rfl (run_rt (e := [some (.f (.bool true)), none]) rfl rfl ?_), by decide +kernel⟩
      unfold m_law_plain
      refine DL.wp_nx (by simp -implicitDefEqProofs [] <;> (repeat' (first | rfl | apply And.intro))) ?_
      (first | exact DL.wp_ret (by simp -implicitDefEqProofs [] <;> (repeat' (first | rfl | apply And.intro))) | exact DL.wp_rt (by simp -implicitDefEqProofs [] <;> (repeat' (first | rfl | apply And.intro))))
    | false =>
      refine ⟨"F", spN_r rfl (run_rt (e := [some (.f (.bool false)), none]) rfl rfl ?_), by decide +kernel⟩
      unfold m_law_plain
      refine DL.wp_nx (by simp -implicitDefEqProofs [] <;> (repeat' (first | rfl | apply And.intro))) ?_
      refine DL.wp_nx (by simp -implicitDefEqProofs [] <;> (repeat' (first | rfl | apply And.intro))) ?_
      (first | exact DL.wp_ret (by simp -implicitDefEqProofs [] <;> (repeat' (first | rfl | apply And.intro))) | exact DL.wp_rt (by simp -implicitDefEqProofs [] <;> (repeat' (first | rfl | apply And.intro))))
  | int i =>
    have hs := strD_i h
    refine ⟨Str.ofString (toString i), spN_r rfl (run_rt (e := [some (.f (.int i)), none]) rfl rfl ?_), itx_eq i⟩
    unfold m_law_plain
    refine DL.wp_nx (by simp -implicitDefEqProofs [] <;> (repeat' (first | rfl | apply And.intro))) ?_
    refine DL.wp_nx (by simp -implicitDefEqProofs [] <;> (repeat' (first | rfl | apply And.intro))) ?_
    refine DL.wp_nx (by simp -implicitDefEqProofs [] <;> (repeat' (first | rfl | apply And.intro))) ?_
    (first | exact DL.wp_ret (by simp -implicitDefEqProofs [hs] <;> (repeat' (first | rfl | apply And.intro))) | exact DL.wp_rt (by simp -implicitDefEqProofs [hs] <;> (repeat' (first | rfl | apply And.intro))))
  | str s =>
    have hs := repl_r (i := 0) (e := [some (.f (.str s)), none]) h (by simp -implicitDefEqProofs [])
    refine ⟨wr s, spN_r rfl (run_rt (e := [some (.f (.str s)), none]) rfl rfl ?_), wr_list s⟩
    unfold m_law_plain
    refine DL.wp_nx (by simp -implicitDefEqProofs [] <;> (repeat' (first | rfl | apply And.intro))) ?_
    refine DL.wp_nx (by simp -implicitDefEqProofs [] <;> (repeat' (first | rfl | apply And.intro))) ?_
    refine DL.wp_nx (by simp -implicitDefEqProofs [] <;> (repeat' (first | rfl | apply And.intro))) ?_
    refine DL.wp_nx (by simp -implicitDefEqProofs [] <;> (repeat' (first | rfl | apply And.intro))) ?_
    refine DL.wp_nx (by simp -implicitDefEqProofs [] <;> (repeat' (first | rfl | apply And.intro))) ?_
    exact wp_end (o := .rt (.f (.str (wr s))) _) (by rw [sRet_r, hs] <;> rfl) ⟨_, rfl⟩
  | _ => exact h.elim
theorem law_plain_tup {S : Sf} {ds : List D} {f : D → Str} (hc : ∀ x ∈ ds, S [.f x] = .ok (.f (.str (f x)), [])) (hl : ((ds.map f).map (·.length)).sum + ds.length ≤ 50000) :
    spN 1 2 (m_law_plain S) [.f (.tuple ds)] = .ok (.f (.str (Str.ofString "(" ++ Txt.join (Str.ofString " ") (ds.map f) ++ Str.ofString ")")), []) := by
  have b1 : (Str.ofString " ").length = 1 := by decide +kernel
  have b2 : (Str.ofString "(").length = 1 := by decide +kernel
  have b3 : (Str.ofString ")").length = 1 := by decide +kernel
  have hlen : ds.length ≤ 50000 := by omega
  have hj : joinD (.str (Str.ofString " ")) (.list (ds.map fun x => .str (f x))) = .ok (.f (.str (Txt.join (Str.ofString " ") (ds.map f)))) := by
    rw [show (ds.map fun x => D.str (f x)) = (ds.map f).map D.str by rw [List.map_map]; rfl]
    exact joinD_l (by rw [b1, List.length_map]; omega)
  have ll : (Txt.join (Str.ofString " ") (ds.map f)).length ≤ 50000 := by
    have := (jn_len ((ds.map f).map fun y => y.cps.toList)).2
    rw [len_cps, TX.join_list]
    have e : ((ds.map f).map fun y => y.cps.toList).map List.length = (ds.map f).map (·.length) := by
      rw [List.map_map]
      exact List.map_congr_left fun y _ => (len_cps y).symm
    rw [e, List.length_map, List.length_map] at this
    omega
  have a1 : addD (.str (Str.ofString "(")) (.str (Txt.join (Str.ofString " ") (ds.map f))) = .ok (.f (.str (Str.ofString "(" ++ Txt.join (Str.ofString " ") (ds.map f)))) := add_str (by omega)
  have a2 : addD (.str (Str.ofString "(" ++ Txt.join (Str.ofString " ") (ds.map f))) (.str (Str.ofString ")")) = .ok (.f (.str (Str.ofString "(" ++ Txt.join (Str.ofString " ") (ds.map f) ++ Str.ofString ")"))) := add_str (by
    rw [len_cps (Str.ofString "(" ++ _), app_str, List.length_append, ← len_cps, ← len_cps]
    omega)
  obtain ⟨J, hJ⟩ : ∃ J, J = Txt.join (Str.ofString " ") (ds.map f) := ⟨_, rfl⟩
  rw [← hJ] at hj a1 a2
  rw [← hJ]
  refine spN_r rfl (run_rt (e := [some (.f (.tuple ds)), none]) rfl rfl ?_)
  unfold m_law_plain
  refine DL.wp_nx (by simp -implicitDefEqProofs [] <;> (repeat' (first | rfl | apply And.intro))) ?_
  refine DL.wp_nx (by simp -implicitDefEqProofs [] <;> (repeat' (first | rfl | apply And.intro))) ?_
  refine DL.wp_nx (by simp -implicitDefEqProofs [] <;> (repeat' (first | rfl | apply And.intro))) ?_
  refine DL.wp_nx (by simp -implicitDefEqProofs [] <;> (repeat' (first | rfl | apply And.intro))) ?_
  refine wp_rt (e' := [some (.f (.tuple ds)), none]) (by
    simp -implicitDefEqProofs []
    (rw [DL.mComp_of ds (fun x => x) (fun x => D.str (f x)) (by simp -implicitDefEqProofs [D.items] <;> (repeat' (first | rfl | apply And.intro))) (by first | exact DL.tgOk_n _ | exact DL.tgOk_t (.cons (DL.tgOk_n _) .nil) | exact DL.tgOk_t (.cons (DL.tgOk_n _) (.cons (DL.tgOk_n _) .nil)) | exact DL.tgOk_t (.cons (DL.tgOk_n _) (.cons (DL.tgOk_n _) (.cons (DL.tgOk_n _) .nil))) | exact DL.tgOk_t (.cons (DL.tgOk_n _) (.cons (DL.tgOk_n _) (.cons (DL.tgOk_n _) (.cons (DL.tgOk_n _) .nil)))) | exact DL.tgOk_t (.cons (DL.tgOk_n _) (.cons (DL.tgOk_t (.cons (DL.tgOk_n _) (.cons (DL.tgOk_n _) .nil))) .nil))) (by simp) (by simp) (by first | omega | (simp; omega)) ?_])
    · simp -implicitDefEqProofs [hj, a1, a2]
    · intro x hx
      exact ⟨_, by simp -implicitDefEqProofs [wipeE] <;> rfl, by simp -implicitDefEqProofs [m_law_plain_e1, hc x hx] <;> rfl⟩)
/-- the text of a plain value -/
theorem law_plain_r : ∀ (n : Nat) (d : D), Pl n d → (tx n d).length ≤ 40000 → ∀ k, n ≤ k → ∃ s, S_law_plain k [.f d] = .ok (.f (.str s), []) ∧ s.cps.toList = tx n d := by
  intro n
  induction n with
  | zero =>
    intro d h _ k _
    exact law_plain_atom h
  | succ n ih =>
    intro d h hl k hk
    rcases h.cases with ⟨ha, ht⟩ | ⟨m, ds, hm, rfl, h3, hp, ht⟩
    · rw [ht]
      exact law_plain_atom ha
    · obtain rfl : n = m := by omega
      rw [ht] at hl ⊢
      obtain ⟨k, rfl⟩ : ∃ j, k = j + 1 := ⟨k - 1, by omega⟩
      have hb := part_len (m := n) (ds := ds) (B := 40000) (by omega)
      have hex : ∀ x ∈ ds, ∃ s, S_law_plain k [.f x] = .ok (.f (.str s), []) ∧ s.cps.toList = tx n x := fun x hx => ih x (hp x hx) (hb x hx) k (by omega)
      obtain ⟨f, hf⟩ : ∃ f : D → Str, ∀ x ∈ ds, S_law_plain k [.f x] = .ok (.f (.str (f x)), []) ∧ (f x).cps.toList = tx n x := by
        classical
        refine ⟨fun x => if h : x ∈ ds then (hex x h).choose else ⟨#[]⟩, fun x hx => ?_⟩
        simp only [hx, dif_pos]
        exact (hex x hx).choose_spec
      have e : (ds.map f).map (fun y => y.cps.toList) = ds.map (tx n) := by
        rw [List.map_map]
        exact List.map_congr_left fun x hx => (hf x hx).2
      have el : (ds.map f).map (·.length) = (ds.map (tx n)).map List.length := by
        rw [← e, List.map_map, List.map_map, List.map_map]
        exact List.map_congr_left fun y _ => len_cps (f y)
      refine ⟨_, law_plain_tup (S := S_law_plain k) (f := f) (fun x hx => (hf x hx).1) ?_, ?_⟩
      · rw [el]
        have := (jn_len (ds.map (tx n))).1
        simp only [List.length_cons, List.length_append, List.length_nil] at hl
        rw [List.length_map] at this
        omega
      · have e1 : (Str.ofString "(").cps.toList = [40] := by decide +kernel
        have e2 : (Str.ofString ")").cps.toList = [41] := by decide +kernel
        rw [app_str, app_str, TX.join_list, e, e1, e2]
        rfl
end Lk27

namespace Lk27
open PySem L2 DL PyProof.Rows Md Sh ShW ShN TX TL ShP
theorem show_plain_atom {S : Sf} {d : D} (h : AtomOk d) : ∃ s, spN 1 2 (m_show_plain S) [.f d] = .ok (.f (.str s), []) ∧ s.cps.toList = atomT d := by
  cases d with
  | none =>
    refine ⟨"N", spN_r rfl (run_rt (e := [some (.f .none), none]) rfl rfl ?_), by decide +kernel⟩
    unfold m_show_plain
    (first | exact DL.wp_ret (by simp -implicitDefEqProofs [] <;> (repeat' (first | rfl | apply And.intro))) | exact DL.wp_rt (by simp -implicitDefEqProofs [] <;> (repeat' (first | rfl | apply And.intro))))
  | bool b =>
    cases b with
    | true =>
      refine ⟨"T", spN_r rfl (run_rt (e := [some (.f (.bool true)), none]) rfl rfl ?_), by decide +kernel⟩
      unfold m_show_plain
      refine DL.wp_nx (by simp -implicitDefEqProofs [] <;> (repeat' (first | rfl | apply And.intro))) ?_
      (first | exact DL.wp_ret (by simp -implicitDefEqProofs [] <;> (repeat' (first | rfl | apply And.intro))) | exact DL.wp_rt (by simp -implicitDefEqProofs [] <;> (repeat' (first | rfl | apply And.intro))))
    | false =>
      refine ⟨"F", spN_r rfl (run_rt (e := [some (.f (.bool false)), none]) rfl rfl ?_), by decide +kernel⟩
      unfold m_show_plain
      refine DL.wp_nx (by simp -implicitDefEqProofs [] <;> (repeat' (first | rfl | apply And.intro))) ?_
      refine DL.wp_nx (by simp -implicitDefEqProofs [] <;> (repeat' (first | rfl | apply And.intro))) ?_
      (first | exact DL.wp_ret (by simp -implicitDefEqProofs [] <;> (repeat' (first | rfl | apply And.intro))) | exact DL.wp_rt (by simp -implicitDefEqProofs [] <;> (repeat' (first | rfl | apply And.intro))))
  | int i =>
    have hs := strD_i h
    refine ⟨Str.ofString (toString i), spN_r rfl (run_rt (e := [some (.f (.int i)), none]) rfl rfl ?_), itx_eq i⟩
    unfold m_show_plain
    refine DL.wp_nx (by simp -implicitDefEqProofs [] <;> (repeat' (first | rfl | apply And.intro))) ?_
    refine DL.wp_nx (by simp -implicitDefEqProofs [] <;> (repeat' (first | rfl | apply And.intro))) ?_
    refine DL.wp_nx (by simp -implicitDefEqProofs [] <;> (repeat' (first | rfl | apply And.intro))) ?_
    (first | exact DL.wp_ret (by simp -implicitDefEqProofs [hs] <;> (repeat' (first | rfl | apply And.intro))) | exact DL.wp_rt (by simp -implicitDefEqProofs [hs] <;> (repeat' (first | rfl | apply And.intro))))
  | str s =>
    have hs := repl_r (i := 0) (e := [some (.f (.str s)), none]) h (by simp -implicitDefEqProofs [])
    refine ⟨wr s, spN_r rfl (run_rt (e := [some (.f (.str s)), none]) rfl rfl ?_), wr_list s⟩
    unfold m_show_plain
    refine DL.wp_nx (by simp -implicitDefEqProofs [] <;> (repeat' (first | rfl | apply And.intro))) ?_
    refine DL.wp_nx (by simp -implicitDefEqProofs [] <;> (repeat' (first | rfl | apply And.intro))) ?_
    refine DL.wp_nx (by simp -implicitDefEqProofs [] <;> (repeat' (first | rfl | apply And.intro))) ?_
    refine DL.wp_nx (by simp -implicitDefEqProofs [] <;> (repeat' (first | rfl | apply And.intro))) ?_
    refine wp_rt (e' := [some (.f (.str s)), none]) (by
      generalize hm : (m2 addD (mH (m2 addD (mH (mN (mC (.str "\"")))) (mH (mRepl "\n" "\\n" (mRepl "\"" "\\\"" (mRepl "\\" "\\\\" (mN (mVar 0)))))))) (mH (mN (mC (.str "\""))))) = mm at *
      simp -implicitDefEqProofs [hs])
  | _ => exact h.elim
theorem show_plain_tup {S : Sf} {ds : List D} {f : D → Str} (hc : ∀ x ∈ ds, S [.f x] = .ok (.f (.str (f x)), [])) (hl : ((ds.map f).map (·.length)).sum + ds.length ≤ 50000) :
    spN 1 2 (m_show_plain S) [.f (.tuple ds)] = .ok (.f (.str (Str.ofString "(" ++ Txt.join (Str.ofString " ") (ds.map f) ++ Str.ofString ")")), []) := by
  have b1 : (Str.ofString " ").length = 1 := by decide +kernel
  have b2 : (Str.ofString "(").length = 1 := by decide +kernel
  have b3 : (Str.ofString ")").length = 1 := by decide +kernel
  have hlen : ds.length ≤ 50000 := by omega
  have hj : joinD (.str (Str.ofString " ")) (.list (ds.map fun x => .str (f x))) = .ok (.f (.str (Txt.join (Str.ofString " ") (ds.map f)))) := by
    rw [show (ds.map fun x => D.str (f x)) = (ds.map f).map D.str by rw [List.map_map]; rfl]
    exact joinD_l (by rw [b1, List.length_map]; omega)
  have ll : (Txt.join (Str.ofString " ") (ds.map f)).length ≤ 50000 := by
    have := (jn_len ((ds.map f).map fun y => y.cps.toList)).2
    rw [len_cps, TX.join_list]
    have e : ((ds.map f).map fun y => y.cps.toList).map List.length = (ds.map f).map (·.length) := by
      rw [List.map_map]
      exact List.map_congr_left fun y _ => (len_cps y).symm
    rw [e, List.length_map, List.length_map] at this
    omega
  have a1 : addD (.str (Str.ofString "(")) (.str (Txt.join (Str.ofString " ") (ds.map f))) = .ok (.f (.str (Str.ofString "(" ++ Txt.join (Str.ofString " ") (ds.map f)))) := add_str (by omega)
  have a2 : addD (.str (Str.ofString "(" ++ Txt.join (Str.ofString " ") (ds.map f))) (.str (Str.ofString ")")) = .ok (.f (.str (Str.ofString "(" ++ Txt.join (Str.ofString " ") (ds.map f) ++ Str.ofString ")"))) := add_str (by
    rw [len_cps (Str.ofString "(" ++ _), app_str, List.length_append, ← len_cps, ← len_cps]
    omega)
  obtain ⟨J, hJ⟩ : ∃ J, J = Txt.join (Str.ofString " ") (ds.map f) := ⟨_, rfl⟩
  rw [← hJ] at hj a1 a2
  rw [← hJ]
  refine spN_r rfl (run_rt (e := [some (.f (.tuple ds)), none]) rfl rfl ?_)
  unfold m_show_plain
  refine DL.wp_nx (by simp -implicitDefEqProofs [] <;> (repeat' (first | rfl | apply And.intro))) ?_
  refine DL.wp_nx (by simp -implicitDefEqProofs [] <;> (repeat' (first | rfl | apply And.intro))) ?_
  refine DL.wp_nx (by simp -implicitDefEqProofs [] <;> (repeat' (first | rfl | apply And.intro))) ?_
  refine DL.wp_nx (by simp -implicitDefEqProofs [] <;> (repeat' (first | rfl | apply And.intro))) ?_
  refine DL.wp_nx (by simp -implicitDefEqProofs [] <;> (repeat' (first | rfl | apply And.intro))) ?_
  refine wp_end (o := .rt (.f (.str (Str.ofString "(" ++ J ++ Str.ofString ")"))) [some (.f (.tuple ds)), none]) (by
    simp -implicitDefEqProofs []
    (rw [DL.mComp_of ds (fun x => x) (fun x => D.str (f x)) (by simp -implicitDefEqProofs [D.items] <;> (repeat' (first | rfl | apply And.intro))) (by first | exact DL.tgOk_n _ | exact DL.tgOk_t (.cons (DL.tgOk_n _) .nil) | exact DL.tgOk_t (.cons (DL.tgOk_n _) (.cons (DL.tgOk_n _) .nil)) | exact DL.tgOk_t (.cons (DL.tgOk_n _) (.cons (DL.tgOk_n _) (.cons (DL.tgOk_n _) .nil))) | exact DL.tgOk_t (.cons (DL.tgOk_n _) (.cons (DL.tgOk_n _) (.cons (DL.tgOk_n _) (.cons (DL.tgOk_n _) .nil)))) | exact DL.tgOk_t (.cons (DL.tgOk_n _) (.cons (DL.tgOk_t (.cons (DL.tgOk_n _) (.cons (DL.tgOk_n _) .nil))) .nil))) (by simp) (by simp) (by first | omega | (simp; omega)) ?_])
    · simp -implicitDefEqProofs [hj, a1, a2]
    · intro x hx
      exact ⟨_, by simp -implicitDefEqProofs [wipeE] <;> rfl, by simp -implicitDefEqProofs [m_show_plain_e1, hc x hx] <;> rfl⟩) ⟨_, rfl⟩
/-- the text of a plain value -/
theorem show_plain_r : ∀ (n : Nat) (d : D), Pl n d → (tx n d).length ≤ 40000 → ∀ k, n ≤ k → ∃ s, S_show_plain k [.f d] = .ok (.f (.str s), []) ∧ s.cps.toList = tx n d := by
  intro n
  induction n with
  | zero =>
    intro d h _ k _
    exact show_plain_atom h
  | succ n ih =>
    intro d h hl k hk
    rcases h.cases with ⟨ha, ht⟩ | ⟨m, ds, hm, rfl, h3, hp, ht⟩
    · rw [ht]
      exact show_plain_atom ha
    · obtain rfl : n = m := by omega
      rw [ht] at hl ⊢
      obtain ⟨k, rfl⟩ : ∃ j, k = j + 1 := ⟨k - 1, by omega⟩
      have hb := part_len (m := n) (ds := ds) (B := 40000) (by omega)
      have hex : ∀ x ∈ ds, ∃ s, S_show_plain k [.f x] = .ok (.f (.str s), []) ∧ s.cps.toList = tx n x := fun x hx => ih x (hp x hx) (hb x hx) k (by omega)
      obtain ⟨f, hf⟩ : ∃ f : D → Str, ∀ x ∈ ds, S_show_plain k [.f x] = .ok (.f (.str (f x)), []) ∧ (f x).cps.toList = tx n x := by
        classical
        refine ⟨fun x => if h : x ∈ ds then (hex x h).choose else ⟨#[]⟩, fun x hx => ?_⟩
        simp only [hx, dif_pos]
        exact (hex x hx).choose_spec
      have e : (ds.map f).map (fun y => y.cps.toList) = ds.map (tx n) := by
        rw [List.map_map]
        exact List.map_congr_left fun x hx => (hf x hx).2
      have el : (ds.map f).map (·.length) = (ds.map (tx n)).map List.length := by
        rw [← e, List.map_map, List.map_map, List.map_map]
        exact List.map_congr_left fun y _ => len_cps (f y)
      refine ⟨_, show_plain_tup (S := S_show_plain k) (f := f) (fun x hx => (hf x hx).1) ?_, ?_⟩
      · rw [el]
        have := (jn_len (ds.map (tx n))).1
        simp only [List.length_cons, List.length_append, List.length_nil] at hl
        rw [List.length_map] at this
        omega
      · have e1 : (Str.ofString "(").cps.toList = [40] := by decide +kernel
        have e2 : (Str.ofString ")").cps.toList = [41] := by decide +kernel
        rw [app_str, app_str, TX.join_list, e, e1, e2]
        rfl
end Lk27

namespace Lk27
open PySem L2 DL PyProof.Rows Md Sh ShW ShN TX TL ShP
theorem same_str {S : Sf} {s : Str} : spN 2 3 (m_law_same S) [.f (.str s), .f (.str s)] = .ok (.f (.bool true), []) := by
  refine spN_r rfl (run_rt (e := [some (.f (.str s)), some (.f (.str s)), none]) rfl rfl ?_)
  unfold m_law_same
  refine DL.wp_nx (by simp -implicitDefEqProofs [] <;> (repeat' (first | rfl | apply And.intro))) ?_
  refine DL.wp_nx (by simp -implicitDefEqProofs [] <;> (repeat' (first | rfl | apply And.intro))) ?_
  refine DL.wp_nx (by simp -implicitDefEqProofs [] <;> (repeat' (first | rfl | apply And.intro))) ?_
  refine DL.wp_nx (by simp -implicitDefEqProofs [] <;> (repeat' (first | rfl | apply And.intro))) ?_
  refine DL.wp_nx (by simp -implicitDefEqProofs [] <;> (repeat' (first | rfl | apply And.intro))) ?_
  (first | exact DL.wp_ret (by simp -implicitDefEqProofs [] <;> (repeat' (first | rfl | apply And.intro))) | exact DL.wp_rt (by simp -implicitDefEqProofs [] <;> (repeat' (first | rfl | apply And.intro))))
theorem same_atom {S : Sf} {d : D} (h : AtomOk d) : spN 2 3 (m_law_same S) [.f d, .f d] = .ok (.f (.bool true), []) := by
  cases d with
  | none =>
    refine spN_r rfl (run_rt (e := [some (.f .none), some (.f .none), none]) rfl rfl ?_)
    unfold m_law_same
    refine DL.wp_nx (by simp -implicitDefEqProofs [] <;> (repeat' (first | rfl | apply And.intro))) ?_
    (first | exact DL.wp_ret (by simp -implicitDefEqProofs [] <;> (repeat' (first | rfl | apply And.intro))) | exact DL.wp_rt (by simp -implicitDefEqProofs [] <;> (repeat' (first | rfl | apply And.intro))))
  | bool b =>
    refine spN_r rfl (run_rt (e := [some (.f (.bool b)), some (.f (.bool b)), none]) rfl rfl ?_)
    unfold m_law_same
    cases b with
    | true =>
      refine DL.wp_nx (by simp -implicitDefEqProofs [] <;> (repeat' (first | rfl | apply And.intro))) ?_
      refine DL.wp_nx (by simp -implicitDefEqProofs [] <;> (repeat' (first | rfl | apply And.intro))) ?_
      (first | exact DL.wp_ret (by simp -implicitDefEqProofs [] <;> (repeat' (first | rfl | apply And.intro))) | exact DL.wp_rt (by simp -implicitDefEqProofs [] <;> (repeat' (first | rfl | apply And.intro))))
    | false =>
      refine DL.wp_nx (by simp -implicitDefEqProofs [] <;> (repeat' (first | rfl | apply And.intro))) ?_
      refine DL.wp_nx (by simp -implicitDefEqProofs [] <;> (repeat' (first | rfl | apply And.intro))) ?_
      refine DL.wp_nx (by simp -implicitDefEqProofs [] <;> (repeat' (first | rfl | apply And.intro))) ?_
      (first | exact DL.wp_ret (by simp -implicitDefEqProofs [] <;> (repeat' (first | rfl | apply And.intro))) | exact DL.wp_rt (by simp -implicitDefEqProofs [] <;> (repeat' (first | rfl | apply And.intro))))
  | int i =>
    refine spN_r rfl (run_rt (e := [some (.f (.int i)), some (.f (.int i)), none]) rfl rfl ?_)
    unfold m_law_same
    refine DL.wp_nx (by simp -implicitDefEqProofs [] <;> (repeat' (first | rfl | apply And.intro))) ?_
    refine DL.wp_nx (by simp -implicitDefEqProofs [] <;> (repeat' (first | rfl | apply And.intro))) ?_
    refine DL.wp_nx (by simp -implicitDefEqProofs [] <;> (repeat' (first | rfl | apply And.intro))) ?_
    refine DL.wp_nx (by simp -implicitDefEqProofs [] <;> (repeat' (first | rfl | apply And.intro))) ?_
    (first | exact DL.wp_ret (by simp -implicitDefEqProofs [] <;> (repeat' (first | rfl | apply And.intro))) | exact DL.wp_rt (by simp -implicitDefEqProofs [] <;> (repeat' (first | rfl | apply And.intro))))
  | str s => exact same_str
  | _ => exact h.elim
theorem same_tup {S : Sf} {ds : List D} (hc : ∀ x ∈ ds, S [.f x, .f x] = .ok (.f (.bool true), [])) (hl : ds.length ≤ 1000) : spN 2 3 (m_law_same S) [.f (.tuple ds), .f (.tuple ds)] = .ok (.f (.bool true), []) := by
  refine spN_r rfl (run_rt (e := [some (.f (.tuple ds)), some (.f (.tuple ds)), none]) rfl rfl ?_)
  unfold m_law_same
  have hn : neD (.int (ds.length : Int)) (.int (ds.length : Int)) = .ok (.f (.bool false)) := by simp
  refine wp_seq (wp_ifp True (by simp -implicitDefEqProofs [] <;> rfl) (fun _ => ?_) (fun z => absurd trivial z))
  refine DL.wp_nx (by simp -implicitDefEqProofs [hn] <;> (repeat' (first | rfl | apply And.intro))) ?_
  refine wp_ex (for_u (List.range ds.length) (fun (k : Nat) => D.int (k : Int)) [2] (fun k vs => ∃ c : Option D, vs = [c.map .f]) (rng1_n (n := ds.length) (by simp -implicitDefEqProofs [] <;> rfl) (by omega)) [none] rfl ⟨none, rfl⟩ ?_) ?_
  · rintro k v vs hk ⟨c, rfl⟩
    obtain ⟨hkn, rfl⟩ := List.getElem?_eq_some_iff.mp hk
    rw [List.length_range] at hkn
    simp only [List.getElem_range]
    have ix : ixD (.tuple ds) (.int (k : Int)) = .ok (.f (ds[k]'hkn)) := ixD_tN (i := (k : Int)) (by omega) (by simp [hkn])
    have hx := hc (ds[k]'hkn) (List.getElem_mem hkn)
    refine ⟨_, tgN_f (a := c) rfl, ?_⟩
    generalize ds[k]'hkn = x at *
    generalize D.tuple ds = T at *
    exact wp_end (o := .nx [some (.f T), some (.f T), some (.f (.int (k : Int)))]) (by simp -implicitDefEqProofs [m_law_same_b1, ix, hx]) ⟨[some (.f (.int (k : Int)))], rfl, some (.int (k : Int)), rfl⟩
  · rintro en ⟨vs, rfl, c, rfl⟩
    exact wp_end (by simp -implicitDefEqProofs [] <;> rfl) (cont_rt ⟨_, rfl⟩)
theorem same_r : ∀ (n : Nat) (d : D), Pl n d → ∀ k, n ≤ k → S_law_same k [.f d, .f d] = .ok (.f (.bool true), []) := by
  intro n
  induction n with
  | zero =>
    intro d h k _
    exact same_atom h
  | succ n ih =>
    intro d h k hk
    rcases h.cases with ⟨ha, ht⟩ | ⟨m, ds, hm, rfl, h3, hp, ht⟩
    · exact same_atom ha
    · obtain rfl : n = m := by omega
      obtain ⟨k, rfl⟩ : ∃ j, k = j + 1 := ⟨k - 1, by omega⟩
      exact same_tup (fun x hx => ih x (hp x hx) k (by omega)) (by omega)
end Lk27

namespace Lk27
open PySem L2 DL PyProof.Rows Md Sh ShW ShN TX TL ShP
theorem b1_eq : m_law_digits_2638e9_b1 = m_law_digits_b1 := rfl
theorem b2_eq : m_law_digits_2638e9_b2 = m_law_digits_b2 := rfl
theorem dig_loop2 (ns : List Int) : ∀ (ds xs : List D) (a b c d : Option D), ds.all (fun x => match x with | .int i => decide (0 ≤ i) | _ => false) = true → xs.all D.isI = true → xs.length ≤ 1560 → ∃ xs' a' b' c' d', loopL (tgN 4) (m_law_digits_2638e9_b3 S_cell) ds (eDig (.ro (ns.map .int)) (.int 0) (.int 63) xs a b c d) = .nx (eDig (.ro (ns.map .int)) (.int 0) (.int 63) xs' a' b' c' d') ∧ xs'.all D.isI = true ∧ xs'.length ≤ 1560 := by
  intro ds
  induction ds with
  | nil => exact fun xs a b c d _ h hl => ⟨xs, a, b, c, d, rfl, h, hl⟩
  | cons y ds ih =>
    intro xs a b c d hd h hl
    rw [List.all_cons, Bool.and_eq_true] at hd
    obtain ⟨hy, hd⟩ := hd
    cases y <;> try (simp at hy; done)
    rename_i k
    simp only [decide_eq_true_eq] at hy
    have e1 : tgN 4 (.int k) (eDig (.ro (ns.map .int)) (.int 0) (.int 63) xs a b c d) = .ok (eDig (.ro (ns.map .int)) (.int 0) (.int 63) xs (some (.int k)) b c d) := tgN_f (a := a) rfl
    obtain ⟨i, hi⟩ : ∃ i, S_cell [.f (.ro (ns.map .int)), .f (.int k)] = .ok (.f (.int i), []) := by
      refine ⟨(ns[k.toNat]?).getD 0, ?_⟩
      show (if 0 ≤ k then _ else _) = _
      rw [if_pos hy, List.getElem?_map]
      cases ns[k.toNat]? <;> rfl
    have m : MulOk 2 i := mulOk_l (by decide) (by decide)
    obtain ⟨j, ej⟩ : ∃ j, j = if i < 0 then 1 - 2 * i else i := ⟨_, rfl⟩
    have e2 : ∀ s : En → Out, sSeq (sAsgF 5 (mZ (mCall S_cell (aCons (aD (mVar 0)) (aCons (aD (mVar 4)) aNil))))) s (eDig (.ro (ns.map .int)) (.int 0) (.int 63) xs (some (.int k)) b c d) = s (eDig (.ro (ns.map .int)) (.int 0) (.int 63) xs (some (.int k)) (some (.int i)) c d) := fun s => by
      cases b <;> simp [eDig, hi]
    have e3 : ∀ s : En → Out, sSeq (sIf (mBool (m2 ltD (mH (mN (mVar 5))) (mH (mN (mC (.int 0)))))) (sAsgF 5 (mZ (m2 subD (mH (mN (mC (.int 1)))) (mH (m2 mulD (mH (mN (mC (.int 2)))) (mH (mN (mVar 5)))))))) sNext) s (eDig (.ro (ns.map .int)) (.int 0) (.int 63) xs (some (.int k)) (some (.int i)) c d) = s (eDig (.ro (ns.map .int)) (.int 0) (.int 63) xs (some (.int k)) (some (.int j)) c d) := fun s => by
      by_cases hi : i < 0
      · simp [eDig, ej, hi, mulD_i m]
      · simp [eDig, ej, hi]
    by_cases hb : 1500 < xs.length
    · have : m_law_digits_2638e9_b3 S_cell (eDig (.ro (ns.map .int)) (.int 0) (.int 63) xs (some (.int k)) b c d) = .bk (eDig (.ro (ns.map .int)) (.int 0) (.int 63) xs (some (.int k)) b c d) := by
        unfold m_law_digits_2638e9_b3
        have : (1500 : Int) < (xs.length : Int) := by omega
        simp [eDig, this]
      rw [loop_bk e1 this]
      exact ⟨_, _, _, _, _, rfl, h, hl⟩
    · have h15 : ¬ (1500 : Int) < (xs.length : Int) := by omega
      have e0 : ∀ s : En → Out, sSeq (sIf (mBool (m2 gtD (mH (mL lenD (aCons (mSl 3) aNil))) (mH (mN (mC (.int 1500)))))) sBreak sNext) s (eDig (.ro (ns.map .int)) (.int 0) (.int 63) xs (some (.int k)) b c d) = s (eDig (.ro (ns.map .int)) (.int 0) (.int 63) xs (some (.int k)) b c d) := fun s => by
        simp [eDig, h15]
      by_cases hj : 1000000000000000000 ≤ j
      · obtain ⟨xs', x', c', g1, g2, g3⟩ := dig_w60 (r := .ro (ns.map .int)) (f := .int 0) (l := .int 63) (a := some (.int k)) (d := d) (rgD 0 60) xs j c (allI_rg 0 60) h (by rw [rgD_len]; omega)
        have : m_law_digits_2638e9_b3 S_cell (eDig (.ro (ns.map .int)) (.int 0) (.int 63) xs (some (.int k)) b c d) = .nx (eDig (.ro (ns.map .int)) (.int 0) (.int 63) xs' (some (.int k)) (some (.int x')) c' d) := by
          unfold m_law_digits_2638e9_b3
          rw [e0, e2, e3, ← g1, b1_eq]
          simp [eDig, hj]
        rw [loop_nx e1 this]
        exact ih _ _ _ _ _ hd g2 g3
      · have m1 : MulOk j 48271 := mulOk_r' (by decide) (by decide)
        have m2 : MulOk k 69621 := mulOk_r' (by decide) (by decide)
        obtain ⟨xs', x', c', g1, g2, g3⟩ := dig_w12 (r := .ro (ns.map .int)) (f := .int 0) (l := .int 63) (a := some (.int k)) (b := some (.int j)) (rgD 0 12) xs ((j * 48271 + k * 69621 + 11) % 2147483647) c (allI_rg 0 12) h (by rw [rgD_len]; omega)
        have : m_law_digits_2638e9_b3 S_cell (eDig (.ro (ns.map .int)) (.int 0) (.int 63) xs (some (.int k)) b c d) = .nx (eDig (.ro (ns.map .int)) (.int 0) (.int 63) xs' (some (.int k)) (some (.int j)) c' (some (.int x'))) := by
          unfold m_law_digits_2638e9_b3
          rw [e0, e2, e3, ← g1, b2_eq]
          cases d <;> simp [eDig, hj, modD_i, mulD_i m1, mulD_i m2]
        rw [loop_nx e1 this]
        exact ih _ _ _ _ _ hd g2 g3
theorem digits_r (ns : List Int) : ∃ ds : List Int, ds.length ≤ 1560 ∧ S_law_digits [.f (.ro (ns.map .int)), .f (.int 0), .f (.int 63)] = .ok (.l false (ds.map .int), []) := by
  obtain ⟨xs', a', b', c', d', g1, g2, g3⟩ := dig_loop2 ns (rgD 0 63) [] none none none none (by rw [rgD_map]; simp) rfl (by simp)
  obtain ⟨ds, rfl⟩ := allI_map g2
  refine ⟨ds, by simpa using g3, ?_⟩
  have g0 : loopL (tgN 4) (m_law_digits_2638e9_b3 S_cell) (rgD 0 63) [some (.f (.ro (ns.map .int))), some (.f (.int 0)), some (.f (.int 63)), some (.l false []), none, none, none, none] = .nx [some (.f (.ro (ns.map .int))), some (.f (.int 0)), some (.f (.int 63)), some (.l false (ds.map .int)), a'.map .f, b'.map .f, c'.map .f, d'.map .f] := g1
  refine spN_r rfl ?_
  simp [runD_r, startE, m_law_digits_2638e9, g0]
end Lk27

namespace Lk27
open PySem L2 DL PyProof.Rows Md Sh ShW ShN TX TL ShP
theorem dr7 {xs : List D} (hx : xs.all D.isI = true) (m : Nat) {M t t' : Int} (hM : (m : Int) = M) (ht : t + 1 = t') (h0 : 0 ≤ t) (h1 : t < 10 ^ 8) (hm : 0 < m) (hm2 : m ≤ 1000) : ∃ d : Nat, S_draw [.l true [.list xs, .int t], .f (.int M)] = .ok (.f (.int (d : Int)), [.l true [.list xs, .int t']]) ∧ d < m := by
  subst hM ht
  have h := draw_r hx h0 (a := t) (m := (m : Int)) (by omega) (by omega) (by omega)
  have n0 := dv_nn (xs := xs) (a := t) (m := (m : Int)) (by omega)
  have n1 := dv_lt (xs := xs) (a := t) (m := (m : Int)) (by omega)
  exact ⟨(dv xs t m).toNat, by rw [show (((dv xs t (m : Int)).toNat : Nat) : Int) = dv xs t m by omega]; exact h, by omega⟩
/-- what a drawn value is -/
def VQ (xs : List D) (n : Nat) (t C B : Int) (o : Out) : Prop := ∃ (v : D) (t' : Int) (e1 : En), o = .rt (.f v) e1 ∧ e1[0]? = some (some (.l true [.list xs, .int t'])) ∧ t ≤ t' ∧ t' ≤ t + C ∧ Pl n v ∧ ((tx n v).length : Int) ≤ B
theorem pl_atom {n : Nat} {d : D} (h : AtomOk d) : Pl n d ∧ tx n d = atomT d := by
  cases n with
  | zero => exact ⟨h, rfl⟩
  | succ n =>
    cases d with
    | tuple ds => exact h.elim
    | _ => exact ⟨h, rfl⟩
theorem atom_len {d : D} (h : AtomOk d) : (atomT d).length ≤ 40 := by
  cases d with
  | none => simp [atomT]
  | bool b => cases b <;> simp [atomT]
  | int i => have := (itx_len h).1; show (itx i).length ≤ 40; omega
  | str s =>
    have := (esc_len s.cps.toList).2
    have h : s.length ≤ 8 := h
    rw [← len_cps] at this
    simp [atomT]
    omega
  | _ => exact h.elim
theorem vq_atom {xs : List D} {n : Nat} {t t' C B : Int} {v : D} {e1 : En} (h : AtomOk v) (he : e1[0]? = some (some (.l true [.list xs, .int t']))) (h1 : t ≤ t') (h2 : t' ≤ t + C) (hB : 40 ≤ B) : VQ xs n t C B (.rt (.f v) e1) := by
  obtain ⟨p1, p2⟩ := pl_atom (n := n) h
  have := atom_len h
  exact ⟨v, t', e1, rfl, he, h1, h2, p1, by rw [p2]; omega⟩
theorem atI_nat {α : Type} {l : List α} {q : Nat} (h : q < l.length) : atI l (q : Int) = some (l[q]) := by
  unfold L2.atI L2.ixN
  rw [if_pos (by omega), if_pos (by omega), Int.toNat_natCast]
  show l[q]? = _
  exact List.getElem?_eq_getElem h
theorem join0 (ys : List Str) : (Txt.join (Str.ofString "") ys).cps.toList = ys.flatMap fun y => y.cps.toList := by
  rw [join_eq]
  have e : tl (Str.ofString "") = [] := by decide +kernel
  have := tl_join (Str.ofString "") ys
  rw [e] at this
  show tl _ = _
  rw [this]
  have g : ∀ ls : List (List Nat), joinL [] ls = ls.flatMap id := fun ls => by
    induction ls with
    | nil => rfl
    | cons a r ih =>
      cases r with
      | nil => simp [joinL]
      | cons b r =>
        show a ++ ([] ++ joinL [] (b :: r)) = _
        rw [ih]
        simp
  rw [g]
  simp [List.flatMap_map]
theorem sum_le : ∀ (l : List Nat) (B : Nat), (∀ a ∈ l, a ≤ B) → l.sum ≤ l.length * B
  | [], _, _ => by simp
  | a :: l, B, h => by
    have := sum_le l B fun b hb => h b (List.mem_cons_of_mem _ hb)
    have := h a List.mem_cons_self
    rw [List.sum_cons, List.length_cons, Nat.add_mul]
    omega
theorem vq_tup {xs : List D} {m : Nat} {t t' C : Int} {B : Nat} {ds : List D} {e1 : En} (hl : ds.length ≤ 3) (h : ∀ d ∈ ds, Pl m d ∧ (tx m d).length ≤ B) (he : e1[0]? = some (some (.l true [.list xs, .int t']))) (h1 : t ≤ t') (h2 : t' ≤ t + C) : VQ xs (m + 1) t C (3 * (B + 1) + 40) (.rt (.f (.tuple ds)) e1) := by
  refine ⟨_, t', e1, rfl, he, h1, h2, ⟨hl, fun d hd => (h d hd).1⟩, ?_⟩
  show ((40 :: (jn (ds.map (tx m)) ++ [41])).length : Int) ≤ _
  have h3 := (jn_len (ds.map (tx m))).2
  have h4 := sum_le ((ds.map (tx m)).map List.length) B fun a ha => by
    obtain ⟨y, hy, rfl⟩ := List.mem_map.mp ha
    obtain ⟨d, hd, rfl⟩ := List.mem_map.mp hy
    exact (h d hd).2
  rw [List.length_map, List.length_map] at h4
  have h5 : ds.length * B ≤ 3 * B := Nat.mul_le_mul_right _ hl
  rw [List.length_map] at h3
  simp only [List.length_cons, List.length_append, List.length_nil]
  omega
theorem value_step {S : Sf} {n : Nat} {C B : Nat} {xs : List D} (hx : xs.all D.isI = true)
    (hS : 0 < n → ∀ t : Int, 0 ≤ t → t + C < 10 ^ 7 → ∃ v t', S [.l true [.list xs, .int t], .f (.int ((n : Int) - 1))] = .ok (.f v, [.l true [.list xs, .int t']]) ∧ t ≤ t' ∧ t' ≤ t + C ∧ Pl (n - 1) v ∧ (tx (n - 1) v).length ≤ B) (hC : C ≤ 10000)
    {t : Int} (t0 : 0 ≤ t) (t1 : t + (3 * C + 10) < 10 ^ 7) : WP (m_law_value S_draw S [some (.l true [.list xs, .int t]), some (.f (.int (n : Int))), none, none, none, none]) (VQ xs n t (3 * C + 10) (3 * (B + 1) + 40)) := by
  unfold m_law_value
  obtain ⟨ta, hta⟩ : ∃ ta, t + 1 = ta := ⟨_, rfl⟩
  obtain ⟨tb, htb⟩ : ∃ tb, ta + 1 = tb := ⟨_, rfl⟩
  obtain ⟨tc, htc⟩ : ∃ tc, tb + 1 = tc := ⟨_, rfl⟩
  obtain ⟨td, htd⟩ : ∃ td, tc + 1 = td := ⟨_, rfl⟩
  obtain ⟨k, kk, lk⟩ := dr7 hx 9 (M := 9) (t := t) rfl hta (by omega) (by omega) (by decide) (by decide)
  obtain ⟨K, hK⟩ : ∃ K : Int, (k : Int) = K := ⟨_, rfl⟩
  obtain ⟨N, hN⟩ : ∃ N : Int, (n : Int) = N := ⟨_, rfl⟩
  rw [hK] at kk
  rw [hN]
  refine DL.wp_nx (by simp -implicitDefEqProofs [kk] <;> (repeat' (first | rfl | apply And.intro))) ?_
  refine wp_seq (wp_ifp (K < 3 ∧ 0 < N) (by
    by_cases h1 : K < 3
    · by_cases h2 : 0 < N
      · simp -implicitDefEqProofs [h1, h2]
      · simp -implicitDefEqProofs [h1, h2]
    · simp -implicitDefEqProofs [h1]) (fun h => ?_) (fun h => ?_))
  · obtain ⟨hk3, hn0⟩ := h
    obtain ⟨c, kc, lc⟩ := dr7 hx 4 (M := 4) (t := ta) rfl htb (by omega) (by omega) (by decide) (by decide)
    obtain ⟨acc, vs, hcp, ds, tk, rfl, hdl, hdp, tk0, tk1, rfl⟩ := comp_st (src := mRng1 (aCons (mZ (mCall S_draw (aCons (aS 0) (aCons (aD (mC (.int 4))) aNil)))) aNil)) (t := tgN 5) (vs := [5]) (m := m_law_value_e1 S) (e := [some (.l true [.list xs, .int ta]), some (.f (.int N)), some (.f (.int K)), none, none, none]) (List.range c) (fun (k : Nat) => D.int (k : Int)) [0]
      (fun k acc vs => ∃ (ds : List D) (tk : Int), acc = ds ∧ ds.length = k ∧ (∀ d ∈ ds, Pl (n - 1) d ∧ (tx (n - 1) d).length ≤ B) ∧ tb ≤ tk ∧ tk ≤ tb + (k : Int) * C ∧ vs = [some (.l true [.list xs, .int tk])])
      (rng1_n (n := c) (e' := [some (.l true [.list xs, .int tb]), some (.f (.int N)), some (.f (.int K)), none, none, none]) (by simp -implicitDefEqProofs [kc] <;> rfl) (by omega)) [some (.l true [.list xs, .int tb])] rfl ⟨[], tb, rfl, rfl, fun d hd => by simp at hd, Int.le_refl _, by simp, rfl⟩ (tgOk_n 5) (by simp) (by simp) (by simp; omega) (by simp) (by
        rintro j x acc vs hj ⟨ds, tk, rfl, hdl, hdp, tk0, tk1, rfl⟩
        obtain ⟨hjn, rfl⟩ := List.getElem?_eq_some_iff.mp hj
        rw [List.length_range] at hjn
        have e1 : (((j + 1 : Nat) : Int)) * (C : Int) = (j : Int) * C + C := by rw [show ((j + 1 : Nat) : Int) = (j : Int) + 1 from rfl, Int.add_mul, Int.one_mul]
        have e2 : (j : Int) * (C : Int) ≤ 2 * C := Int.mul_le_mul_of_nonneg_right (by omega) (by omega)
        obtain ⟨v, t', hv, tv0, tv1, pv, lv⟩ := hS (by omega) tk (by omega) (by omega)
        rw [hN] at hv
        refine ⟨_, v, _, [some (.l true [.list xs, .int t'])], by simp -implicitDefEqProofs [wipeE] <;> rfl, by simp -implicitDefEqProofs [m_law_value_e1, hv] <;> rfl, by simp [wipeE], by simp, acc ++ [v], t', rfl, by simp [hdl], ?_, by omega, by omega, rfl⟩
        intro d hd
        rcases List.mem_append.mp hd with z | z
        · exact hdp d z
        · rw [List.mem_singleton.mp z]
          exact ⟨pv, lv⟩)
    rw [List.length_range] at hdl tk1
    have e2 : (c : Int) * (C : Int) ≤ 3 * C := Int.mul_le_mul_of_nonneg_right (by omega) (by omega)
    have ktu : tupleD [.list acc] = .ok (.f (.tuple acc)) := by simp -implicitDefEqProofs [D.items]
    obtain ⟨m, rfl⟩ : ∃ m, n = m + 1 := ⟨n - 1, by omega⟩
    exact wp_end (o := .rt (.f (.tuple acc)) [some (.l true [.list xs, .int tk]), some (.f (.int N)), some (.f (.int K)), none, none, none]) (by simp -implicitDefEqProofs [hcp, ktu] <;> rfl) (cont_rt (vq_tup (by omega) hdp rfl (by omega) (by omega)))
  refine wp_end (o := .nx _) (by simp -implicitDefEqProofs [] <;> rfl) (cont_nx ?_)
  refine wp_seq (wp_ifp (K = 3) (by simp -implicitDefEqProofs [] <;> rfl) (fun h3 => ?_) (fun h3 => ?_))
  · obtain ⟨j, kj, lj⟩ := dr7 hx 3 (M := 3) (t := ta) rfl htb (by omega) (by omega) (by decide) (by decide)
    rcases (show j = 0 ∨ j = 1 ∨ j = 2 by omega) with rfl | rfl | rfl
    · exact wp_end (o := .rt (.f .none) _) (by simp -implicitDefEqProofs [kj] <;> rfl) (cont_rt (vq_atom trivial rfl (by omega) (by omega) (by omega)))
    · exact wp_end (o := .rt (.f (.bool true)) _) (by simp -implicitDefEqProofs [kj] <;> rfl) (cont_rt (vq_atom trivial rfl (by omega) (by omega) (by omega)))
    · exact wp_end (o := .rt (.f (.bool false)) _) (by simp -implicitDefEqProofs [kj] <;> rfl) (cont_rt (vq_atom trivial rfl (by omega) (by omega) (by omega)))
  refine wp_end (o := .nx _) (by simp -implicitDefEqProofs [] <;> rfl) (cont_nx ?_)
  refine wp_seq (wp_ifp (K = 4) (by simp -implicitDefEqProofs [] <;> rfl) (fun h4 => ?_) (fun h4 => ?_))
  · obtain ⟨a, ka, la⟩ := dr7 hx 900 (M := 900) (t := ta) rfl htb (by omega) (by omega) (by decide) (by decide)
    obtain ⟨b, kb, lb⟩ := dr7 hx 900 (M := 900) (t := tb) rfl htc (by omega) (by omega) (by decide) (by decide)
    obtain ⟨j, kj, lj⟩ := dr7 hx 4 (M := 4) (t := tc) rfl htd (by omega) (by omega) (by decide) (by decide)
    have p16 : powD (.int 10) (.int 16) = .ok (.f (.int 10000000000000000)) := by rw [powD_i (by decide)]; rfl
    have p19 : powD (.int 10) (.int 19) = .ok (.f (.int 10000000000000000000)) := by rw [powD_i (by decide)]; rfl
    have mu : mulD (.int (a : Int)) (.int 10000000000000000) = .ok (.f (.int ((a : Int) * 10000000000000000))) := mulD_i (mulOk_r' (by decide) (by decide))
    obtain ⟨M, hM⟩ : ∃ M : Int, (a : Int) * 10000000000000000 + b - 450 = M := ⟨_, rfl⟩
    refine DL.wp_nx (by simp -implicitDefEqProofs [ka, kb, p16, mu, hM] <;> (repeat' (first | rfl | apply And.intro))) ?_
    rcases (show j = 0 ∨ j = 1 ∨ j = 2 ∨ j = 3 by omega) with rfl | rfl | rfl | rfl
    · exact wp_end (o := .rt (.f (.int M)) _) (by simp -implicitDefEqProofs [kj, p19] <;> rfl) (cont_rt (vq_atom (show M.natAbs < 10 ^ 30 by omega) rfl (by omega) (by omega) (by omega)))
    · exact wp_end (o := .rt (.f (.int (0 - M))) _) (by simp -implicitDefEqProofs [kj, p19] <;> rfl) (cont_rt (vq_atom (show (0 - M).natAbs < 10 ^ 30 by omega) rfl (by omega) (by omega) (by omega)))
    · exact wp_end (o := .rt (.f (.int (10000000000000000000 + M))) _) (by simp -implicitDefEqProofs [kj, p19] <;> rfl) (cont_rt (vq_atom (show (10000000000000000000 + M).natAbs < 10 ^ 30 by omega) rfl (by omega) (by omega) (by omega)))
    · exact wp_end (o := .rt (.f (.int 0)) _) (by simp -implicitDefEqProofs [kj, p19] <;> rfl) (cont_rt (vq_atom (show (0 : Int).natAbs < 10 ^ 30 by omega) rfl (by omega) (by omega) (by omega)))
  refine wp_end (o := .nx _) (by simp -implicitDefEqProofs [] <;> rfl) (cont_nx ?_)
  refine wp_seq (wp_ifp (K = 5) (by simp -implicitDefEqProofs [] <;> rfl) (fun h5 => ?_) (fun h5 => ?_))
  · obtain ⟨a, ka, la⟩ := dr7 hx 30 (M := 30) (t := ta) rfl htb (by omega) (by omega) (by decide) (by decide)
    obtain ⟨M, hM⟩ : ∃ M : Int, (a : Int) - 15 = M := ⟨_, rfl⟩
    exact wp_end (o := .rt (.f (.int M)) _) (by simp -implicitDefEqProofs [ka, hM] <;> rfl) (cont_rt (vq_atom (show M.natAbs < 10 ^ 30 by omega) rfl (by omega) (by omega) (by omega)))
  refine wp_end (o := .nx _) (by simp -implicitDefEqProofs [] <;> rfl) (cont_nx ?_)
  obtain ⟨SG, hSG⟩ : ∃ SG, SG = Str.ofString " !\"#$&'()*+,-./0189:;<=>?@AZ[\\]^_`az{|}~\nnTFN" := ⟨_, rfl⟩
  have hL : SG.length = 45 := by rw [hSG]; decide +kernel
  rw [← hSG]
  refine DL.wp_nx (by simp -implicitDefEqProofs [] <;> (repeat' (first | rfl | apply And.intro))) ?_
  obtain ⟨c, kc, lc⟩ := dr7 hx 9 (M := 9) (t := ta) rfl htb (by omega) (by omega) (by decide) (by decide)
  obtain ⟨acc, vs, hcp, ys, rfl, hyl, hyp, rfl⟩ := comp_st (src := mRng1 (aCons (mZ (mCall S_draw (aCons (aS 0) (aCons (aD (mC (.int 9))) aNil)))) aNil)) (t := tgN 5) (vs := [5]) (m := m_law_value_e2 S_draw) (e := [some (.l true [.list xs, .int ta]), some (.f (.int N)), some (.f (.int K)), none, some (.f (.str SG)), none]) (List.range c) (fun (k : Nat) => D.int (k : Int)) [0]
    (fun k acc vs => ∃ (ys : List Str), acc = ys.map .str ∧ ys.length = k ∧ (∀ y ∈ ys, y.length ≤ 1) ∧ vs = [some (.l true [.list xs, .int (tb + k)])])
    (rng1_n (n := c) (e' := [some (.l true [.list xs, .int tb]), some (.f (.int N)), some (.f (.int K)), none, some (.f (.str SG)), none]) (by simp -implicitDefEqProofs [kc] <;> rfl) (by omega)) [some (.l true [.list xs, .int tb])] rfl ⟨[], rfl, rfl, fun d hd => by simp at hd, by simp⟩ (tgOk_n 5) (by simp) (by simp) (by simp; omega) (by simp) (by
      rintro j x acc vs hj ⟨ys, rfl, hyl, hyp, rfl⟩
      obtain ⟨hjn, rfl⟩ := List.getElem?_eq_some_iff.mp hj
      rw [List.length_range] at hjn
      obtain ⟨tj, htj⟩ : ∃ tj, tb + (j : Int) = tj := ⟨_, rfl⟩
      obtain ⟨tj', htj'⟩ : ∃ tj', tj + 1 = tj' := ⟨_, rfl⟩
      have etj : tb + ((j + 1 : Nat) : Int) = tj' := by omega
      rw [htj, etj]
      obtain ⟨a, ka, la⟩ := dr7 hx 900 (M := 900) (t := tj) rfl htj' (by omega) (by omega) (by decide) (by decide)
      obtain ⟨A, hA⟩ : ∃ A : Int, (a : Int) = A := ⟨_, rfl⟩
      rw [hA] at ka
      have mo : modD (.int A) (.int 45) = .ok (.f (.int (A % 45))) := modD_i (by decide)
      obtain ⟨y, iy, ly⟩ : ∃ y : Str, ixD (.str SG) (.int (A % 45)) = .ok (.f (.str y)) ∧ y.length ≤ 1 := by
        obtain ⟨q, hq⟩ : ∃ q : Nat, A % 45 = q := ⟨(A % 45).toNat, by omega⟩
        have hq2 : q < SG.cps.toList.length := by rw [← len_cps, hL]; omega
        refine ⟨one (SG.cps.toList[q]), ?_, Nat.le_refl _⟩
        simp only [ixD]
        rw [if_pos (Nat.le_trans (Nat.le_of_eq hL) (by decide +kernel)), hq, atI_nat hq2]
      have ll : lenD [.str SG] = .ok (.f (.int 45)) := by
        have : lenD [.str SG] = .ok (.f (.int (SG.length : Int))) := if_pos (Nat.le_trans (Nat.le_of_eq hL) (by decide +kernel))
        rw [this, hL]
        rfl
      refine ⟨_, .str y, _, [some (.l true [.list xs, .int tj'])], by simp -implicitDefEqProofs [wipeE] <;> rfl, by simp -implicitDefEqProofs [m_law_value_e2, ka, ll, mo, iy] <;> rfl, by simp [wipeE], by simp, ys ++ [y], by simp, by simp [hyl], ?_, rfl⟩
      intro d hd
      rcases List.mem_append.mp hd with z | z
      · exact hyp d z
      · rw [List.mem_singleton.mp z]
        exact ly)
  rw [List.length_range] at hyl
  have hsm := sum_le (ys.map (·.length)) 1 fun a ha => by
    obtain ⟨y, hy, rfl⟩ := List.mem_map.mp ha
    exact hyp y hy
  rw [List.length_map] at hsm
  have hj : joinD (.str (Str.ofString "")) (.list (ys.map .str)) = .ok (.f (.str (Txt.join (Str.ofString "") ys))) := joinD_l (by
    have : (Str.ofString "").length = 0 := by decide +kernel
    rw [this]
    omega)
  have hjl : (Txt.join (Str.ofString "") ys).length ≤ 8 := by
    rw [len_cps, join0]
    have : (ys.flatMap fun y => y.cps.toList).length = (ys.map (·.length)).sum := by
      rw [List.length_flatMap]
      congr 1
    omega
  exact wp_end (o := .rt (.f (.str (Txt.join (Str.ofString "") ys))) _) (by simp -implicitDefEqProofs [hcp, hj] <;> rfl) (vq_atom (show Str.length _ ≤ 8 from hjl) rfl (by omega) (by omega) (by omega))
/-- how many draws, how long a text -/
def cst : Nat → Nat
  | 0 => 10
  | n + 1 => 3 * cst n + 10
def bd : Nat → Nat
  | 0 => 43
  | n + 1 => 3 * (bd n + 1) + 40
theorem value_r {xs : List D} (hx : xs.all D.isI = true) : ∀ (n : Nat), n ≤ 4 → ∀ t : Int, 0 ≤ t → t + cst n < 10 ^ 7 → ∃ (v : D) (t' : Int), S_law_value n [.l true [.list xs, .int t], .f (.int (n : Int))] = .ok (.f v, [.l true [.list xs, .int t']]) ∧ t ≤ t' ∧ t' ≤ t + cst n ∧ Pl n v ∧ (tx n v).length ≤ bd n := by
  intro n
  induction n with
  | zero =>
    intro _ t t0 t1
    have h1 : ((cst 0 : Nat) : Int) = 10 := rfl
    obtain ⟨v, t', e1, h, he, a1, a2, a3, a4⟩ := value_step (S := S_law_valueP 0) (n := 0) (C := 0) (B := 0) hx (fun z => by omega) (by decide) (t := t) t0 (by omega)
    exact ⟨v, t', spN_r rfl (run_box rfl rfl h he), a1, by rw [h1]; omega, a3, by show _ ≤ 43; omega⟩
  | succ n ih =>
    intro hn t t0 t1
    have h1 : ((cst (n + 1) : Nat) : Int) = 3 * (cst n : Int) + 10 := rfl
    have hc : cst n ≤ 10000 := by
      rcases (show n = 0 ∨ n = 1 ∨ n = 2 ∨ n = 3 by omega) with rfl | rfl | rfl | rfl <;> decide
    obtain ⟨v, t', e1, h, he, a1, a2, a3, a4⟩ := value_step (S := S_law_value n) (n := n + 1) (C := cst n) (B := bd n) hx (fun _ t t0 t1 => by
      obtain ⟨v, t', q⟩ := ih (by omega) t t0 (by omega)
      refine ⟨v, t', ?_⟩
      rw [show ((n + 1 : Nat) : Int) - 1 = (n : Int) by omega]
      exact q) hc (t := t) t0 (by omega)
    exact ⟨v, t', spN_r rfl (run_box rfl rfl h he), a1, by omega, a3, by show _ ≤ 3 * (bd n + 1) + 40; omega⟩
end Lk27

namespace Lk27
open PySem L2 DL PyProof.Rows Md Sh ShW ShN TX TL ShP
theorem s45 : Str.ofString "-" = one 45 := by decide +kernel
theorem s48 : Str.ofString "0" = one 48 := by decide +kernel
theorem s40 : Str.ofString "(" = one 40 := by decide +kernel
theorem s41 : Str.ofString ")" = one 41 := by decide +kernel
theorem s32 : Str.ofString " " = one 32 := by decide +kernel
theorem one_beq (a b : Nat) : (one a == one b) = decide (a = b) := by
  by_cases h : a = b
  · subst h
    simp
  · have : ¬ one a = one b := fun z => h (by cases z; rfl)
    rw [decide_eq_false h]
    simpa using this
theorem sl_r {T : Str} (h : T.length ≤ 10 ^ 6) (a b : Int) : slD (.str T) (some a) (some b) = .ok (.f (.str (Txt.slice T (some a) (some b)))) := if_pos (Nat.le_trans h (by decide +kernel))
theorem len_r {T : Str} (h : T.length ≤ 10 ^ 6) : lenD [.str T] = .ok (.f (.int (T.length : Int))) := if_pos (Nat.le_trans h (by decide +kernel))
theorem ix_r {T : Str} (h : T.length ≤ 10 ^ 6) {k : Nat} {c : Nat} (hk : T.cps.toList[k]? = some c) : ixD (.str T) (.int (k : Int)) = .ok (.f (.str (one c))) := by
  obtain ⟨h1, h2⟩ := List.getElem?_eq_some_iff.mp hk
  simp only [ixD]
  rw [if_pos (Nat.le_trans h (by decide +kernel)), atI_nat h1, h2]
theorem digs : (Str.ofString "0123456789").cps = #[48, 49, 50, 51, 52, 53, 54, 55, 56, 57] := by decide +kernel
theorem dig_in {c : Nat} (h : 48 ≤ c ∧ c ≤ 57) : (Str.ofString "0123456789").cps.contains c = true := by
  rw [digs]
  simp
  omega
theorem dig_out {c : Nat} (h : ¬ (48 ≤ c ∧ c ≤ 57)) : (Str.ofString "0123456789").cps.contains c = false := by
  rw [digs]
  simp
  omega
/-- behind a value -/
def Beh (post : List Nat) : Prop := ∀ c, post.head? = some c → c = 32 ∨ c = 41
/-- from the first digit on -/
theorem read_int_tail {T P L : Str} {pre sg ds post : List Nat} {i : Int} (hT : T.length ≤ 10 ^ 6) (hl : T.cps.toList = pre ++ ((sg ++ ds) ++ post)) (hp : Beh post) (hd : ∀ c ∈ ds, 48 ≤ c ∧ c ≤ 57) (hd31 : ds.length ≤ 31) (hne : ds ≠ []) (hz : ds.head? = some 48 → sg = [] ∧ ds.length = 1)
    (hi : intText? (Txt.slice T (some (pre.length : Int)) (some ((pre.length + (sg ++ ds).length : Nat) : Int))) = some i) (hs1 : sg.length ≤ 1) (hP : P = Txt.slice T (some ((pre.length + sg.length : Nat) : Int)) (some ((pre.length + sg.length : Nat) + 2000 + 1 : Int))) :
    ∃ d0, P.cps.toList[0]? = some d0 ∧ P.length ≤ 10 ^ 6 ∧ ds.head? = some d0 ∧ (Txt.lstripChars P (Str.ofString "0123456789")).length + ds.length = P.length := by
  have hTl := len_cps T
  rw [hl] at hTl
  simp only [List.length_append] at hTl
  have hPl : P.cps.toList = ds ++ post.take (2001 - ds.length) := by
    rw [hP, show ((pre.length + sg.length : Nat) + 2000 + 1 : Int) = ((pre.length + sg.length + 2001 : Nat) : Int) by omega, TX.slice_list (by omega) (by omega), hl]
    rw [List.append_assoc, ← List.append_assoc, List.take_append, List.drop_append]
    rw [List.length_take, List.length_append, Nat.min_eq_right (by omega), List.drop_of_length_le (by rw [List.length_take, List.length_append]; omega), Nat.sub_self, List.nil_append, List.drop_zero]
    rw [show pre.length + sg.length + 2001 - (pre.length + sg.length) = 2001 by omega, List.take_append, List.take_of_length_le (by omega)]
  obtain ⟨d0, r, rfl⟩ : ∃ d r, ds = d :: r := by
    cases ds with
    | nil => exact absurd rfl hne
    | cons d r => exact ⟨d, r, rfl⟩
  refine ⟨d0, by rw [hPl]; rfl, ?_, rfl, ?_⟩
  · rw [len_cps, hPl, List.length_append, List.length_take]
    omega
  · have := stripDig (x := P) (y := Str.ofString "0123456789") hPl (fun c hc => dig_in (hd c hc)) (fun c hc => dig_out (by
      have : post.head? = some c := by
        cases post with
        | nil => simp at hc
        | cons a q =>
          cases hq : 2001 - (d0 :: r).length with
          | zero => rw [hq] at hc; simp at hc
          | succ z => rw [hq] at hc; simpa using hc
      have := hp c this
      omega))
    rw [this, len_cps P, hPl, List.length_append]
    omega
theorem read_int {T : Str} {pre post : List Nat} {i : Int} (hT : T.length ≤ 10 ^ 6) (hl : T.cps.toList = pre ++ (itx i ++ post)) (hp : Beh post) (hi : i.natAbs < 10 ^ 30) :
    S_read_integer [.f (.str T), .f (.int (pre.length : Int))] = .ok (.f (.tuple [.int i, .int ((pre.length + (itx i).length : Nat) : Int)]), []) := by
  obtain ⟨sg, ds, hit, hs1, hsg, hd, hd31, hne, hz⟩ : ∃ sg ds : List Nat, itx i = sg ++ ds ∧ sg.length ≤ 1 ∧ (sg = [] ∨ sg = [45]) ∧ (∀ c ∈ ds, 48 ≤ c ∧ c ≤ 57) ∧ ds.length ≤ 31 ∧ ds ≠ [] ∧ (ds.head? = some 48 → sg = [] ∧ ds.length = 1) := by
    have hlen := (itx_len hi).1
    unfold itx at hlen ⊢
    by_cases hn : i < 0
    · rw [if_pos hn] at hlen ⊢
      refine ⟨[45], numL i.natAbs, rfl, by simp, .inr rfl, dig_num _, by simp at hlen; omega, numL_ne _, fun z => absurd z (numL_head _ (by omega))⟩
    · rw [if_neg hn] at hlen ⊢
      refine ⟨[], numL i.natAbs, rfl, by simp, .inl rfl, dig_num _, by omega, numL_ne _, fun z => ⟨rfl, ?_⟩⟩
      by_cases h0 : i.natAbs = 0
      · rw [h0]
        rfl
      · exact absurd z (numL_head _ h0)
  have hit2 : intText? (Txt.slice T (some (pre.length : Int)) (some ((pre.length + (sg ++ ds).length : Nat) : Int))) = some i := by
    rw [← hit]
    exact int_text (cut_at hl) hi
  have hsl : (Txt.slice T (some (pre.length : Int)) (some ((pre.length + (sg ++ ds).length : Nat) : Int))).length ≤ 640 := by
    have := (itx_len hi).1
    rw [← hit, len_cps, cut_at hl]
    omega
  rw [hit] at hl ⊢
  obtain ⟨P, hP⟩ : ∃ P, P = Txt.slice T (some ((pre.length + sg.length : Nat) : Int)) (some ((pre.length + sg.length : Nat) + 2000 + 1 : Int)) := ⟨_, rfl⟩
  obtain ⟨d0, p0, pl, dh, hm⟩ := read_int_tail (L := P) hT hl hp hd hd31 hne hz hit2 hs1 hP
  -- the sign in front
  obtain ⟨c, hc, hcs⟩ : ∃ c, Txt.slice T (some (pre.length : Int)) (some ((pre.length : Int) + 1)) = one c ∧ (c = 45 ↔ sg = [45]) := by
    rcases hsg with rfl | rfl
    · cases ds with
      | nil => exact absurd rfl hne
      | cons d r =>
        refine ⟨d, by rw [show (pre.length : Int) + 1 = ((pre.length + 1 : Nat) : Int) by omega]; exact sign_at (post := r ++ post) (by rw [hl]; simp), ?_⟩
        have := hd d List.mem_cons_self
        simp
        omega
    · exact ⟨45, by rw [show (pre.length : Int) + 1 = ((pre.length + 1 : Nat) : Int) by omega]; exact sign_at (post := ds ++ post) (by rw [hl]; simp), by simp⟩
  have k1 := sl_r hT (pre.length : Int) ((pre.length : Int) + 1)
  rw [hc] at k1
  obtain ⟨at_, hat⟩ : ∃ a : Int, (pre.length : Int) = a := ⟨_, rfl⟩
  obtain ⟨fi, hfi⟩ : ∃ a : Int, ((pre.length + sg.length : Nat) : Int) = a := ⟨_, rfl⟩
  obtain ⟨en, hen⟩ : ∃ a : Int, ((pre.length + (sg ++ ds).length : Nat) : Int) = a := ⟨_, rfl⟩
  obtain ⟨mn, hmn⟩ : ∃ a : Int, (ds.length : Int) = a := ⟨_, rfl⟩
  rw [hat] at hit2 hsl k1
  rw [hen] at hit2 hsl
  rw [hat, hen]
  rw [hfi] at hP
  have hf1 : (if c = 45 then at_ + 1 else at_) = fi := by
    by_cases z : c = 45
    · have := hcs.mp z
      rw [if_pos z, ← hfi, ← hat, this]
      simp
    · rcases hsg with h | h
      · rw [if_neg z, ← hfi, ← hat, h]
        simp
      · exact absurd (hcs.mpr h) z
  have k2 := sl_r hT fi (fi + 2000 + 1)
  rw [← hP] at k2
  have k3 := len_r pl
  have kst : ∃ Lz : Str, gLstrip P [.str (Str.ofString "0123456789")] = .ok (.str Lz) ∧ Lz.length + ds.length = P.length := ⟨_, if_pos (Nat.le_trans pl (by decide +kernel)), hm⟩
  obtain ⟨Lz, kst, hm2⟩ := kst
  have k4 := len_r (T := Lz) (by omega)
  have hmany : (P.length : Int) - (Lz.length : Int) = mn := by omega
  have k5 := ix_r pl p0
  have k6 := sl_r hT at_ en
  have hend : fi + mn = en := by rw [← hfi, ← hmn, ← hen, List.length_append]; omega
  have kin : intSD [.str (Txt.slice T (some at_) (some en))] = .ok (.f (.int i)) := by
    show (if _ then _ else _) = _
    rw [if_pos hsl, hit2]
  have z1 : ¬ (ds.length = 0) := fun z => hne (List.length_eq_zero_iff.mp z)
  have q1 : ¬ mn = 0 := by omega
  have q2 : ¬ (d0 = 48 ∧ at_ < fi) := fun ⟨a, b⟩ => by
    have := (hz (by rw [dh, a])).1
    rw [this] at hfi
    simp at hfi
    omega
  have q3 : ¬ (d0 = 48 ∧ 1 < mn) := fun ⟨a, b⟩ => by
    have := (hz (by rw [dh, a])).2
    omega
  have q4 : ¬ (2000 < mn) := by omega
  clear hz hm hcs hc hl
  refine spN_r rfl (run_rt (e := [some (.f (.str T)), some (.f (.int at_)), none, none, none]) rfl rfl ?_)
  unfold m_read_integer
  have b1 : (one c == Str.ofString "-") = decide (c = 45) := by rw [s45, one_beq]
  have b2 : (one d0 == Str.ofString "0") = decide (d0 = 48) := by rw [s48, one_beq]
  have k5' : ixD (.str P) (.int 0) = .ok (.f (.str (one d0))) := k5
  refine wp_nx (e' := [some (.f (.str T)), some (.f (.int at_)), some (.f (.int fi)), none, none]) (by
    rw [← hf1]
    by_cases z : c = 45
    · rw [decide_eq_true z] at b1
      rw [if_pos z]
      simp -implicitDefEqProofs [k1, b1]
    · rw [decide_eq_false z] at b1
      rw [if_neg z]
      simp -implicitDefEqProofs [k1, b1]) ?_
  refine DL.wp_nx (by simp -implicitDefEqProofs [k2] <;> (repeat' (first | rfl | apply And.intro))) ?_
  refine DL.wp_nx (by simp -implicitDefEqProofs [k3, kst, k4, hmany] <;> (repeat' (first | rfl | apply And.intro))) ?_
  refine DL.wp_nx (by simp -implicitDefEqProofs [q1] <;> (repeat' (first | rfl | apply And.intro))) ?_
  refine wp_nx (e' := [some (.f (.str T)), some (.f (.int at_)), some (.f (.int fi)), some (.f (.str P)), some (.f (.int mn))]) (by
    by_cases z : d0 = 48
    · have : ¬ at_ < fi := fun y => q2 ⟨z, y⟩
      rw [decide_eq_true z] at b2
      simp -implicitDefEqProofs [k5', b2, this]
    · rw [decide_eq_false z] at b2
      simp -implicitDefEqProofs [k5', b2]) ?_
  refine wp_nx (e' := [some (.f (.str T)), some (.f (.int at_)), some (.f (.int fi)), some (.f (.str P)), some (.f (.int mn))]) (by
    by_cases z : d0 = 48
    · have : ¬ 1 < mn := fun y => q3 ⟨z, y⟩
      rw [decide_eq_true z] at b2
      simp -implicitDefEqProofs [k5', b2, this]
    · rw [decide_eq_false z] at b2
      simp -implicitDefEqProofs [k5', b2]) ?_
  refine DL.wp_nx (by simp -implicitDefEqProofs [q4] <;> (repeat' (first | rfl | apply And.intro))) ?_
  (first | exact DL.wp_ret (by simp -implicitDefEqProofs [hend, k6, kin] <;> (repeat' (first | rfl | apply And.intro))) | exact DL.wp_rt (by simp -implicitDefEqProofs [hend, k6, kin] <;> (repeat' (first | rfl | apply And.intro))))
end Lk27

namespace Lk27
open PySem L2 DL PyProof.Rows Md Sh ShW ShN TX TL ShP
theorem first34 (post : List Nat) : ∀ B : List Nat, ∃ mid rest, B ++ 34 :: post = mid ++ 34 :: rest ∧ 34 ∉ mid
  | [] => ⟨[], post, rfl, by simp⟩
  | b :: B => by
    by_cases h : b = 34
    · exact ⟨[], B ++ 34 :: post, by rw [h]; rfl, by simp⟩
    · obtain ⟨mid, rest, e, hm⟩ := first34 post B
      refine ⟨b :: mid, rest, by rw [List.cons_append, e]; rfl, ?_⟩
      intro z
      rcases List.mem_cons.mp z with z | z
      · exact h z.symm
      · exact hm z
theorem s110 : Str.ofString "n" = one 110 := by decide +kernel
theorem kdE : kd_ESCAPES = [(one 34, .str (one 34)), (one 92, .str (one 92)), (one 110, .str (one 10))] := by
  rw [← s34, ← s92, ← s110, ← s10]
  rfl
/-- the sign that stands for another -/
theorem esc_spec {c : Nat} (h : TX.Spec c) : ∃ e, escC c = [92, e] ∧ one e ∈ kd_ESCAPES.map (·.1) ∧ kd_ESCAPES.find? (fun q => q.1 == one e) = some (one e, .str (one c)) := by
  rw [kdE]
  rcases h with rfl | rfl | rfl
  · exact ⟨92, rfl, by simp, by simp [one_beq]⟩
  · exact ⟨34, rfl, by simp, by simp⟩
  · exact ⟨110, rfl, by simp, by simp [one_beq]⟩
theorem esc_no92 {l : List Nat} (h : ∀ c ∈ l, ¬ TX.Spec c) : 92 ∉ l ∧ 34 ∉ l ∧ 10 ∉ l := ⟨fun z => h _ z (.inl rfl), fun z => h _ z (.inr (.inl rfl)), fun z => h _ z (.inr (.inr rfl))⟩
theorem read_string {T : Str} {pre post : List Nat} {s : Str} (hT : T.length ≤ 10 ^ 6) (hl : T.cps.toList = pre ++ (esc s.cps.toList ++ 34 :: post)) (hs : s.length ≤ 8) :
    S_read_string [.f (.str T), .f (.int (pre.length : Int))] = .ok (.f (.tuple [.str s, .int ((pre.length + (esc s.cps.toList).length + 1 : Nat) : Int)]), []) := by
  obtain ⟨r, hr⟩ : ∃ r, r = s.cps.toList := ⟨_, rfl⟩
  rw [len_cps, ← hr] at hs
  rw [← hr] at hl
  rw [← hr]
  obtain ⟨tot, htot⟩ : ∃ tot, tot = pre.length + (esc r).length := ⟨_, rfl⟩
  rw [← htot]
  refine spN_r rfl (run_rt (e := [some (.f (.str T)), some (.f (.int (pre.length : Int))), none, none, none, none, none, none]) rfl rfl ?_)
  unfold m_read_string
  refine DL.wp_nx (by simp -implicitDefEqProofs [] <;> (repeat' (first | rfl | apply And.intro))) ?_
  refine while_uq [1, 2, 3, 4, 5, 6, 7] (fun n vs => ∃ (pre' r' : List Nat) (ys : List Str) (c3 c4 c5 c6 c7 : Option D), T.cps.toList = pre' ++ (esc r' ++ 34 :: post) ∧ r = (ys.flatMap fun y => y.cps.toList) ++ r' ∧ n = r'.length ∧ pre'.length + (esc r').length = tot ∧ ys.length + 2 * r'.length ≤ 16 ∧
      vs = [some (.f (.int (pre'.length : Int))), some (.l false (ys.map .str)), c3.map .f, c4.map .f, c5.map .f, c6.map .f, c7.map .f]) r.length [some (.f (.int (pre.length : Int))), some (.l false []), none, none, none, none, none] rfl ⟨pre, r, [], none, none, none, none, none, hl, rfl, rfl, htot.symm, by simp; omega, rfl⟩ ?_
  rintro n vs ⟨pre', r', ys, c3, c4, c5, c6, c7, hl', hr', rfl, ht', hy', rfl⟩
  refine ⟨true, (by simp -implicitDefEqProofs [m_read_string_t1] <;> rfl), (fun z => by cases z), (fun _ => ?_)⟩
  have hTl := len_cps T
  rw [hl'] at hTl
  simp only [List.length_append, List.length_cons] at hTl
  unfold m_read_string_w1
  obtain ⟨at_, hat⟩ : ∃ a : Int, (pre'.length : Int) = a := ⟨_, rfl⟩
  have hyl : ys.length < 16000000 := by omega
  have hyl2 : ys.length + 1 < 16000000 := by omega
  have z34 := s34
  have z92 := s92
  have z10 := s10
  rcases split_plain r' with hp | ⟨p, c, r'', rfl, hp, hc⟩
  · -- no sign is written otherwise any more
    obtain ⟨n92, n34, n10⟩ := esc_no92 hp
    rw [esc_plain hp] at hl' ht'
    have f3 := find3_at hl' n34
    have f5 := findIn_no (post := 34 :: post) hl' n92
    have f6 := findIn_no (post := 34 :: post) hl' n10
    obtain ⟨Y, hY⟩ : ∃ Y, Y = Txt.slice T (some (pre'.length : Int)) (some ((pre'.length + r'.length : Nat) : Int)) := ⟨_, rfl⟩
    have hYl : Y.cps.toList = r' := by rw [hY]; exact cut_at hl'
    have k7 := sl_r hT (pre'.length : Int) ((pre'.length + r'.length : Nat) : Int)
    rw [← hY] at k7
    obtain ⟨q, hq⟩ : ∃ q : Int, ((pre'.length + r'.length : Nat) : Int) = q := ⟨_, rfl⟩
    rw [hat, hq] at f3 f5 f6 k7
    have g3 : gFind3 T [.str (Str.ofString "\""), .int at_] = .ok (.int q) := by
      show Rs.ok (D.int (Txt.find3 T (Str.ofString "\"") at_)) = _
      rw [z34, f3]
    have g5 : gFind4 T [.str (Str.ofString "\\"), .int at_, .int q] = .ok (.int (-1)) := by
      show Rs.ok (D.int (Txt.findIn T (Str.ofString "\\") at_ q)) = _
      rw [z92, f5]
    have g6 : gFind4 T [.str (Str.ofString "\n"), .int at_, .int q] = .ok (.int (-1)) := by
      show Rs.ok (D.int (Txt.findIn T (Str.ofString "\n") at_ q)) = _
      rw [z10, f6]
    have q0 : ¬ q < 0 := by omega
    have hq1 : q + 1 = ((tot + 1 : Nat) : Int) := by omega
    have hj : joinD (.str (Str.ofString "")) (.list ((ys ++ [Y]).map .str)) = .ok (.f (.str s)) := by
      rw [joinD_l (by
        have : (Str.ofString "").length = 0 := by decide +kernel
        rw [this]
        have h1 : ((ys ++ [Y]).map (·.length)).sum = r.length := by
          rw [hr', ← hYl, List.length_append, List.length_flatMap, List.map_append, List.sum_append, List.map_singleton, List.sum_singleton, ← len_cps Y]
          rfl
        rw [h1]
        omega)]
      congr 3
      refine str_ext ?_
      rw [join0, List.flatMap_append, ← hr, hr', List.flatMap_singleton, hYl]
    rw [List.map_append, List.map_singleton] at hj
    rw [hat]
    refine DL.wp_nx (by simp -implicitDefEqProofs [g3] <;> (repeat' (first | rfl | apply And.intro))) ?_
    refine DL.wp_nx (by simp -implicitDefEqProofs [q0] <;> (repeat' (first | rfl | apply And.intro))) ?_
    refine DL.wp_nx (by simp -implicitDefEqProofs [g5] <;> (repeat' (first | rfl | apply And.intro))) ?_
    refine DL.wp_nx (by simp -implicitDefEqProofs [] <;> (repeat' (first | rfl | apply And.intro))) ?_
    refine DL.wp_nx (by simp -implicitDefEqProofs [g6] <;> (repeat' (first | rfl | apply And.intro))) ?_
    refine DL.wp_nx (by simp -implicitDefEqProofs [] <;> (repeat' (first | rfl | apply And.intro))) ?_
    refine DL.wp_nx (by simp -implicitDefEqProofs [k7, hyl] <;> (repeat' (first | rfl | apply And.intro))) ?_
    refine DL.wp_nx (by simp -implicitDefEqProofs [q0] <;> (repeat' (first | rfl | apply And.intro))) ?_
    refine wp_rtQ (c := .f (.tuple [.str s, .int ((tot + 1 : Nat) : Int)])) (by simp -implicitDefEqProofs [hj, hq1] <;> rfl) (.inr (.inr ⟨_, _, rfl, ⟨_, rfl⟩⟩))
  · -- the next sign that is written otherwise
    obtain ⟨n92, n34, n10⟩ := esc_no92 hp
    obtain ⟨e, he, hin, hfi⟩ := esc_spec hc
    have hes : esc (p ++ c :: r'') = p ++ 92 :: e :: esc r'' := by rw [esc_app, esc_plain hp, esc_cons, he]; rfl
    rw [hes] at hl' ht' hTl
    obtain ⟨mid, rest, hm, m34⟩ := first34 post (e :: esc r'')
    have hl2 : T.cps.toList = pre' ++ ((p ++ 92 :: mid) ++ 34 :: rest) := by
      rw [hl', List.append_assoc, List.cons_append, hm]
      simp
    have hl3 : T.cps.toList = pre' ++ (p ++ 92 :: (e :: esc r'' ++ 34 :: post)) := by
      rw [hl']
      simp
    have hl4 : T.cps.toList = (pre' ++ p ++ [92]) ++ e :: (esc r'' ++ 34 :: post) := by
      rw [hl']
      simp
    have hTl2 := len_cps T
    rw [hl2] at hTl2
    simp only [List.length_append, List.length_cons] at hTl2 hTl ht'
    have f3 := find3_at hl2 (by
      intro z
      rcases List.mem_append.mp z with z | z
      · exact n34 z
      · rcases List.mem_cons.mp z with z | z
        · omega
        · exact m34 z)
    rw [List.length_append, List.length_cons] at f3
    have f5 := findIn_at (hi := pre'.length + (p.length + (mid.length + 1))) hl3 n92 (by omega) (by omega)
    have f6 := findIn_no (post := 92 :: (e :: esc r'' ++ 34 :: post)) hl3 n10
    obtain ⟨Y, hY⟩ : ∃ Y, Y = Txt.slice T (some (pre'.length : Int)) (some ((pre'.length + p.length : Nat) : Int)) := ⟨_, rfl⟩
    have hYl : Y.cps.toList = p := by rw [hY]; exact cut_at hl3
    have k7 := sl_r hT (pre'.length : Int) ((pre'.length + p.length : Nat) : Int)
    rw [← hY] at k7
    have hsg := sign_at hl4
    obtain ⟨q, hq⟩ : ∃ q : Int, ((pre'.length + (p.length + (mid.length + 1)) : Nat) : Int) = q := ⟨_, rfl⟩
    obtain ⟨sl, hsl⟩ : ∃ q : Int, ((pre'.length + p.length : Nat) : Int) = q := ⟨_, rfl⟩
    have w0 : (pre' ++ p ++ [92]).length = pre'.length + p.length + 1 := by simp; omega
    have w1 : ((pre'.length + p.length + 1 : Nat) : Int) = sl + 1 := by omega
    have w2 : ((pre'.length + p.length + 1 + 1 : Nat) : Int) = sl + 2 := by omega
    have w3 : (pre' ++ p ++ [92, e]).length = pre'.length + p.length + 1 + 1 := by simp; omega
    rw [w0, w1, w2] at hsg
    rw [hat, hq] at f3
    rw [hat, hq, hsl] at f5
    rw [hat, hsl] at f6 k7
    have k8 := sl_r hT (sl + 1) (sl + 2)
    rw [hsg] at k8
    have g3 : gFind3 T [.str (Str.ofString "\""), .int at_] = .ok (.int q) := by
      show Rs.ok (D.int (Txt.find3 T (Str.ofString "\"") at_)) = _
      rw [z34, f3]
    have g5 : gFind4 T [.str (Str.ofString "\\"), .int at_, .int q] = .ok (.int sl) := by
      show Rs.ok (D.int (Txt.findIn T (Str.ofString "\\") at_ q)) = _
      rw [z92, f5]
    have g6 : gFind4 T [.str (Str.ofString "\n"), .int at_, .int sl] = .ok (.int (-1)) := by
      show Rs.ok (D.int (Txt.findIn T (Str.ofString "\n") at_ sl)) = _
      rw [z10, f6]
    have q0 : ¬ q < 0 := by omega
    have s0 : ¬ sl < 0 := by omega
    have s1 : 0 ≤ sl := by omega
    rw [hat]
    refine DL.wp_nx (by simp -implicitDefEqProofs [g3] <;> (repeat' (first | rfl | apply And.intro))) ?_
    refine DL.wp_nx (by simp -implicitDefEqProofs [q0] <;> (repeat' (first | rfl | apply And.intro))) ?_
    refine DL.wp_nx (by simp -implicitDefEqProofs [g5] <;> (repeat' (first | rfl | apply And.intro))) ?_
    refine DL.wp_nx (by simp -implicitDefEqProofs [s1] <;> (repeat' (first | rfl | apply And.intro))) ?_
    refine DL.wp_nx (by simp -implicitDefEqProofs [g6] <;> (repeat' (first | rfl | apply And.intro))) ?_
    refine DL.wp_nx (by simp -implicitDefEqProofs [] <;> (repeat' (first | rfl | apply And.intro))) ?_
    refine DL.wp_nx (by simp -implicitDefEqProofs [k7, hyl] <;> (repeat' (first | rfl | apply And.intro))) ?_
    refine DL.wp_nx (by simp -implicitDefEqProofs [s0, q0] <;> (repeat' (first | rfl | apply And.intro))) ?_
    refine DL.wp_nx (by simp -implicitDefEqProofs [s0] <;> (repeat' (first | rfl | apply And.intro))) ?_
    refine DL.wp_nx (by simp -implicitDefEqProofs [k8] <;> (repeat' (first | rfl | apply And.intro))) ?_
    refine DL.wp_nx (by simp -implicitDefEqProofs [hin] <;> (repeat' (first | rfl | apply And.intro))) ?_
    refine DL.wp_nx (by simp -implicitDefEqProofs [hfi, hyl2] <;> (repeat' (first | rfl | apply And.intro))) ?_
    refine wp_end (o := .nx [some (.f (.str T)), some (.f (.int (sl + 2))), some (.l false ((ys ++ [Y, one c]).map .str)), some (.f (.int q)), some (.f (.int sl)), some (.f (.int sl)), some (.f (.int (-1))), some (.f (.str (one e)))]) (by simp -implicitDefEqProofs [] <;> rfl) (.inl ⟨[some (.f (.int (sl + 2))), some (.l false ((ys ++ [Y, one c]).map .str)), some (.f (.int q)), some (.f (.int sl)), some (.f (.int sl)), some (.f (.int (-1))), some (.f (.str (one e)))], r''.length, .inl rfl, by simp; omega, pre' ++ p ++ [92, e], r'', ys ++ [Y, one c], some (.int q), some (.int sl), some (.int sl), some (.int (-1)), some (.str (one e)), ?_, ?_, rfl, ?_, ?_, ?_⟩)
    · rw [hl']
      simp
    · rw [hr', List.flatMap_append]
      simp [hYl]
    · simp
      omega
    · simp at hy' ⊢
      omega
    · rw [w3, w2]
      rfl
end Lk27

namespace Lk27
open PySem L2 DL PyProof.Rows Md Sh ShW ShN TX TL ShP
theorem one_eq (a b : Nat) : one a = one b ↔ a = b := ⟨fun z => by cases z; rfl, fun z => by rw [z]⟩
theorem kdW : kd_WORDS = [(one 84, .bool true), (one 70, .bool false), (one 78, .none)] := by
  have h1 : Str.ofString "T" = one 84 := by decide +kernel
  have h2 : Str.ofString "F" = one 70 := by decide +kernel
  have h3 : Str.ofString "N" = one 78 := by decide +kernel
  rw [← h1, ← h2, ← h3]
  rfl
theorem msW : ms_WORDS = [34, 40, 45, 48, 49, 50, 51, 52, 53, 54, 55, 56, 57].map one := by decide +kernel
theorem not_word {c : Nat} (h : c = 34 ∨ c = 40 ∨ c = 45 ∨ (48 ≤ c ∧ c ≤ 57)) : ¬ one c ∈ kd_WORDS.map (·.1) ∧ one c ∈ ms_WORDS := by
  rw [kdW, msW]
  constructor
  · simp [one_eq]
    omega
  · simp [one_eq]
    omega
theorem wp_val {S ST : Sf} {T : Str} {pre post : List Nat} {e : Int} {c : Nat} {R : D} (hT : T.length ≤ 10 ^ 6) (hl : T.cps.toList = pre ++ c :: post)
    (h : (∃ d, kd_WORDS.find? (fun q => q.1 == one c) = some (one c, d) ∧ one c ∈ kd_WORDS.map (·.1) ∧ R = .tuple [d, .int ((pre.length : Int) + 1)]) ∨
      (c = 34 ∧ S_read_string [.f (.str T), .f (.int ((pre.length : Int) + 1))] = .ok (.f R, [])) ∨
      (c = 40 ∧ e < 40 ∧ ST [.f (.str T), .f (.int ((pre.length : Int) + 1)), .f (.int (e + 1))] = .ok (.f R, [])) ∨
      ((c = 45 ∨ (48 ≤ c ∧ c ≤ 57)) ∧ S_read_integer [.f (.str T), .f (.int (pre.length : Int))] = .ok (.f R, []))) :
    spN 3 4 (m_read_value S_read_string ST S_read_integer) [.f (.str T), .f (.int (pre.length : Int)), .f (.int e)] = .ok (.f R, []) := by
  have k1 := sl_r hT (pre.length : Int) ((pre.length : Int) + 1)
  have hs := sign_at hl
  rw [show ((pre.length + 1 : Nat) : Int) = (pre.length : Int) + 1 by omega] at hs
  rw [hs] at k1
  obtain ⟨a, ha⟩ : ∃ a : Int, (pre.length : Int) = a := ⟨_, rfl⟩
  rw [ha] at k1 h
  rw [ha]
  refine spN_r rfl (run_rt (e := [some (.f (.str T)), some (.f (.int a)), some (.f (.int e)), none]) rfl rfl ?_)
  unfold m_read_value
  refine DL.wp_nx (by simp -implicitDefEqProofs [k1] <;> (repeat' (first | rfl | apply And.intro))) ?_
  have b34 : (one c == Str.ofString "\"") = decide (c = 34) := by rw [s34, one_beq]
  have b40 : (one c == Str.ofString "(") = decide (c = 40) := by rw [s40, one_beq]
  rcases h with ⟨d, h1, h2, rfl⟩ | ⟨rfl, h1⟩ | ⟨rfl, h0, h1⟩ | ⟨h0, h1⟩
  · refine wp_rt (e' := [some (.f (.str T)), some (.f (.int a)), some (.f (.int e)), some (.f (.str (one c)))]) (by simp -implicitDefEqProofs [h1, h2])
  · obtain ⟨n1, n2⟩ := not_word (c := 34) (by omega)
    rw [decide_eq_true rfl] at b34
    refine DL.wp_nx (by simp -implicitDefEqProofs [n1, n2] <;> (repeat' (first | rfl | apply And.intro))) ?_
    refine wp_rt (e' := [some (.f (.str T)), some (.f (.int a)), some (.f (.int e)), some (.f (.str (one 34)))]) (by simp -implicitDefEqProofs [b34, h1])
  · obtain ⟨n1, n2⟩ := not_word (c := 40) (by omega)
    rw [decide_eq_true rfl] at b40
    rw [decide_eq_false (by omega)] at b34
    refine DL.wp_nx (by simp -implicitDefEqProofs [n1, n2] <;> (repeat' (first | rfl | apply And.intro))) ?_
    refine DL.wp_nx (by simp -implicitDefEqProofs [b34] <;> (repeat' (first | rfl | apply And.intro))) ?_
    refine wp_rt (e' := [some (.f (.str T)), some (.f (.int a)), some (.f (.int e)), some (.f (.str (one 40)))]) (by simp -implicitDefEqProofs [b40, h0, h1])
  · obtain ⟨n1, n2⟩ := not_word (c := c) (by omega)
    rw [decide_eq_false (by omega)] at b34 b40
    refine DL.wp_nx (by simp -implicitDefEqProofs [n1, n2] <;> (repeat' (first | rfl | apply And.intro))) ?_
    refine DL.wp_nx (by simp -implicitDefEqProofs [b34] <;> (repeat' (first | rfl | apply And.intro))) ?_
    refine DL.wp_nx (by simp -implicitDefEqProofs [b40] <;> (repeat' (first | rfl | apply And.intro))) ?_
    (first | exact DL.wp_ret (by simp -implicitDefEqProofs [h1] <;> (repeat' (first | rfl | apply And.intro))) | exact DL.wp_rt (by simp -implicitDefEqProofs [h1] <;> (repeat' (first | rfl | apply And.intro))))
theorem read_atom {ST : Sf} {T : Str} {pre post : List Nat} {e : Int} {d : D} (hd : AtomOk d) (hT : T.length ≤ 10 ^ 6) (hl : T.cps.toList = pre ++ (atomT d ++ post)) (hp : Beh post) :
    spN 3 4 (m_read_value S_read_string ST S_read_integer) [.f (.str T), .f (.int (pre.length : Int)), .f (.int e)] = .ok (.f (.tuple [d, .int ((pre.length + (atomT d).length : Nat) : Int)]), []) := by
  cases d with
  | none => exact wp_val (S := ST) (c := 78) hT hl (.inl ⟨.none, by rw [kdW]; simp [one_beq], by rw [kdW]; simp, rfl⟩)
  | bool b =>
    cases b with
    | true => exact wp_val (S := ST) (c := 84) hT hl (.inl ⟨.bool true, by rw [kdW]; simp [one_beq], by rw [kdW]; simp, rfl⟩)
    | false => exact wp_val (S := ST) (c := 70) hT hl (.inl ⟨.bool false, by rw [kdW]; simp [one_beq], by rw [kdW]; simp, rfl⟩)
  | int i =>
    have hr := read_int hT hl hp hd
    obtain ⟨c, r, hc, hcr⟩ : ∃ c r, itx i = c :: r ∧ (c = 45 ∨ (48 ≤ c ∧ c ≤ 57)) := by
      unfold itx
      split
      · exact ⟨45, _, rfl, .inl rfl⟩
      · cases hn : numL i.natAbs with
        | nil => exact absurd hn (numL_ne _)
        | cons c r => exact ⟨c, r, rfl, .inr (dig_num i.natAbs c (by rw [hn]; exact List.mem_cons_self))⟩
    have hl2 : T.cps.toList = pre ++ c :: (r ++ post) := by
      rw [hl]
      show pre ++ (itx i ++ post) = _
      rw [hc]
      rfl
    exact wp_val (S := ST) hT hl2 (.inr (.inr (.inr ⟨hcr, hr⟩)))
  | str s =>
    have hl2 : T.cps.toList = (pre ++ [34]) ++ (esc s.cps.toList ++ 34 :: post) := by
      rw [hl]
      simp [atomT]
    have hr := read_string hT hl2 hd
    rw [List.length_append, show (((pre.length + [34].length : Nat)) : Int) = (pre.length : Int) + 1 by simp] at hr
    refine wp_val (S := ST) (c := 34) (post := esc s.cps.toList ++ 34 :: post) hT (by rw [hl2]; simp) (.inr (.inl ⟨rfl, ?_⟩))
    rw [hr]
    have : pre.length + [34].length + (esc s.cps.toList).length + 1 = pre.length + (atomT (.str s)).length := by
      simp [atomT]
      omega
    rw [this]
  | _ => exact hd.elim
end Lk27

namespace Lk27
open PySem L2 DL PyProof.Rows Md Sh ShW ShN TX TL ShP
/-- the first sign of a value -/
theorem tx_head {n : Nat} {d : D} (h : Pl n d) : ∃ c r, tx n d = c :: r ∧ c ≠ 41 := by
  rcases h.cases with ⟨ha, ht⟩ | ⟨m, ds, hm, rfl, h3, hp, ht⟩
  · rw [ht]
    cases d with
    | none => exact ⟨78, [], rfl, by decide⟩
    | bool b => cases b <;> exact ⟨_, [], rfl, by decide⟩
    | int i =>
      show ∃ c r, itx i = c :: r ∧ c ≠ 41
      unfold itx
      split
      · exact ⟨45, _, rfl, by decide⟩
      · cases hn : numL i.natAbs with
        | nil => exact absurd hn (numL_ne _)
        | cons c r =>
          have := dig_num i.natAbs c (by rw [hn]; exact List.mem_cons_self)
          exact ⟨c, r, rfl, by omega⟩
    | str s => exact ⟨34, _, rfl, by decide⟩
    | _ => exact ha.elim
  · exact ⟨40, _, ht, by decide⟩
theorem read_tup {SV : Sf} {T : Str} {pre post : List Nat} {e : Int} {m : Nat} {ds : List D} (hT : T.length ≤ 10 ^ 6) (hd3 : ds.length ≤ 3) (hp : ∀ x ∈ ds, Pl m x)
    (hv : ∀ x ∈ ds, ∀ pre post : List Nat, T.cps.toList = pre ++ (tx m x ++ post) → Beh post → SV [.f (.str T), .f (.int (pre.length : Int)), .f (.int e)] = .ok (.f (.tuple [x, .int ((pre.length + (tx m x).length : Nat) : Int)]), []))
    (hl : T.cps.toList = pre ++ (jn (ds.map (tx m)) ++ 41 :: post)) :
    spN 3 6 (m_read_tuple SV) [.f (.str T), .f (.int (pre.length : Int)), .f (.int e)] = .ok (.f (.tuple [.tuple ds, .int ((pre.length + (jn (ds.map (tx m))).length + 1 : Nat) : Int)]), []) := by
  refine spN_r rfl (run_rt (e := [some (.f (.str T)), some (.f (.int (pre.length : Int))), some (.f (.int e)), none, none, none]) rfl rfl ?_)
  unfold m_read_tuple
  have z41 := s41
  have z32 := s32
  have sgn : ∀ {pr po : List Nat} {c : Nat}, T.cps.toList = pr ++ c :: po → slD (.str T) (some (pr.length : Int)) (some ((pr.length : Int) + 1)) = .ok (.f (.str (one c))) := fun {pr po c} h => by
    have k := sl_r hT (pr.length : Int) ((pr.length : Int) + 1)
    have hs := sign_at h
    rw [show ((pr.length + 1 : Nat) : Int) = (pr.length : Int) + 1 by omega] at hs
    rwa [hs] at k
  cases ds with
  | nil =>
    have k1 := sgn (pr := pre) (c := 41) (po := post) hl
    have b : (one 41 == Str.ofString ")") = true := by rw [s41]; simp
    obtain ⟨a, ha⟩ : ∃ a : Int, (pre.length : Int) = a := ⟨_, rfl⟩
    have hr : ((pre.length + (jn (([] : List D).map (tx m))).length + 1 : Nat) : Int) = a + 1 := by
      show ((pre.length + 0 + 1 : Nat) : Int) = a + 1
      omega
    rw [hr]
    rw [ha] at k1
    rw [ha]
    exact wp_rt (e' := [some (.f (.str T)), some (.f (.int a)), some (.f (.int e)), none, none, none]) (by simp -implicitDefEqProofs [k1, b])
  | cons x ds =>
    obtain ⟨tot, htot⟩ : ∃ tot, tot = pre.length + (jn ((x :: ds).map (tx m))).length := ⟨_, rfl⟩
    rw [← htot]
    obtain ⟨c, r, hc, hc41⟩ := tx_head (hp x List.mem_cons_self)
    obtain ⟨q, hq⟩ : ∃ q, jn ((x :: ds).map (tx m)) = c :: q := by
      cases ds with
      | nil => exact ⟨r, hc⟩
      | cons y ds =>
        refine ⟨r ++ 32 :: jn ((y :: ds).map (tx m)), ?_⟩
        show tx m x ++ _ = _
        rw [hc]
        rfl
    have k1 := sgn (pr := pre) (c := c) (po := q ++ 41 :: post) (by rw [hl, hq]; rfl)
    have b : (one c == Str.ofString ")") = false := by rw [s41, one_beq, decide_eq_false hc41]
    refine wp_nx (e' := [some (.f (.str T)), some (.f (.int (pre.length : Int))), some (.f (.int e)), none, none, none]) (by
      generalize (pre.length : Int) = a at *
      simp -implicitDefEqProofs [k1, b]) ?_
    refine DL.wp_nx (by simp -implicitDefEqProofs [] <;> (repeat' (first | rfl | apply And.intro))) ?_
    refine while_uq [1, 3, 4, 5] (fun n vs => ∃ (pre' : List Nat) (dn rs : List D) (c4 c5 : Option D), T.cps.toList = pre' ++ (jn (rs.map (tx m)) ++ 41 :: post) ∧ x :: ds = dn ++ rs ∧ rs ≠ [] ∧ n = rs.length ∧ pre'.length + (jn (rs.map (tx m))).length = tot ∧
        vs = [some (.f (.int (pre'.length : Int))), some (.l false dn), c4.map .f, c5.map .f]) (x :: ds).length [some (.f (.int (pre.length : Int))), some (.l false []), none, none] rfl ⟨pre, [], x :: ds, none, none, hl, rfl, by simp, rfl, htot.symm, rfl⟩ ?_
    rintro n vs ⟨pre', dn, rs, c4, c5, hl', hds, hne, rfl, ht', rfl⟩
    refine ⟨true, (by simp -implicitDefEqProofs [m_read_tuple_t1] <;> rfl), (fun z => by cases z), (fun _ => ?_)⟩
    unfold m_read_tuple_w1
    obtain ⟨y, rs, rfl⟩ : ∃ y r, rs = y :: r := by
      cases rs with
      | nil => exact absurd rfl hne
      | cons y r => exact ⟨y, r, rfl⟩
    have hy : y ∈ x :: ds := by rw [hds]; simp
    have hdn : dn.length < 16000000 := by
      have := congrArg List.length hds
      rw [List.length_append] at this
      omega
    cases rs with
    | nil =>
      have hl2 : T.cps.toList = pre' ++ (tx m y ++ 41 :: post) := hl'
      have kv := hv y hy pre' (41 :: post) hl2 (fun c hc => .inr (by simpa using hc.symm))
      have kl := sgn (pr := pre' ++ tx m y) (c := 41) (po := post) (by rw [hl2]; simp)
      have ht2 : pre'.length + (tx m y).length = tot := ht'
      rw [List.length_append, ht2] at kl
      rw [ht2] at kv
      have b2 : (one 41 == Str.ofString ")") = true := by rw [s41]; simp
      have ktu : tupleD [.list (dn ++ [y])] = .ok (.f (.tuple (dn ++ [y]))) := by simp -implicitDefEqProofs [D.items]
      have hall : dn ++ [y] = x :: ds := hds.symm
      obtain ⟨a, ha⟩ : ∃ a : Int, (pre'.length : Int) = a := ⟨_, rfl⟩
      obtain ⟨z, hz⟩ : ∃ a : Int, (tot : Int) = a := ⟨_, rfl⟩
      rw [ha, hz] at kv
      rw [hz] at kl
      rw [ha]
      have hr : ((tot + 1 : Nat) : Int) = z + 1 := by omega
      rw [hr]
      refine DL.wp_nx (by simp -implicitDefEqProofs [kv] <;> (repeat' (first | rfl | apply And.intro))) ?_
      refine DL.wp_nx (by simp -implicitDefEqProofs [hdn] <;> (repeat' (first | rfl | apply And.intro))) ?_
      refine DL.wp_nx (by simp -implicitDefEqProofs [kl] <;> (repeat' (first | rfl | apply And.intro))) ?_
      exact wp_rtQ (c := .f (.tuple [.tuple (x :: ds), .int (z + 1)])) (by simp -implicitDefEqProofs [b2, ktu, hall] <;> rfl) (.inr (.inr ⟨_, _, rfl, ⟨_, rfl⟩⟩))
    | cons w rs =>
      have hl2 : T.cps.toList = pre' ++ (tx m y ++ (32 :: jn ((w :: rs).map (tx m)) ++ 41 :: post)) := by
        rw [hl']
        show pre' ++ ((tx m y ++ 32 :: jn ((w :: rs).map (tx m))) ++ 41 :: post) = _
        simp
      have kv := hv y hy pre' _ hl2 (fun c hc => .inl (by simpa using hc.symm))
      have kl := sgn (pr := pre' ++ tx m y) (c := 32) (po := jn ((w :: rs).map (tx m)) ++ 41 :: post) (by rw [hl2]; simp)
      have ht2 : pre'.length + ((tx m y).length + ((jn ((w :: rs).map (tx m))).length + 1)) = tot := by
        rw [← ht']
        show _ = pre'.length + (tx m y ++ 32 :: jn ((w :: rs).map (tx m))).length
        rw [List.length_append, List.length_cons]
      rw [List.length_append] at kl
      have b1 : (one 32 == Str.ofString ")") = false := by rw [s41, one_beq]; rfl
      have b2 : (one 32 == Str.ofString " ") = true := by rw [s32]; simp
      have hpl : (pre' ++ tx m y ++ [32]).length = pre'.length + (tx m y).length + 1 := by simp; omega
      obtain ⟨a, ha⟩ : ∃ a : Int, (pre'.length : Int) = a := ⟨_, rfl⟩
      obtain ⟨z, hz⟩ : ∃ a : Int, ((pre'.length + (tx m y).length : Nat) : Int) = a := ⟨_, rfl⟩
      rw [ha, hz] at kv
      rw [hz] at kl
      rw [ha]
      have hpi : ((pre' ++ tx m y ++ [32]).length : Int) = z + 1 := by rw [hpl]; omega
      refine DL.wp_nx (by simp -implicitDefEqProofs [kv] <;> (repeat' (first | rfl | apply And.intro))) ?_
      refine DL.wp_nx (by simp -implicitDefEqProofs [hdn] <;> (repeat' (first | rfl | apply And.intro))) ?_
      refine DL.wp_nx (by simp -implicitDefEqProofs [kl] <;> (repeat' (first | rfl | apply And.intro))) ?_
      refine DL.wp_nx (by simp -implicitDefEqProofs [b1] <;> (repeat' (first | rfl | apply And.intro))) ?_
      refine DL.wp_nx (by simp -implicitDefEqProofs [b2] <;> (repeat' (first | rfl | apply And.intro))) ?_
      refine wp_end (o := .nx [some (.f (.str T)), some (.f (.int (z + 1))), some (.f (.int e)), some (.l false (dn ++ [y])), some (.f y), some (.f (.str (one 32)))]) (by simp -implicitDefEqProofs [] <;> rfl) (.inl ⟨[some (.f (.int (z + 1))), some (.l false (dn ++ [y])), some (.f y), some (.f (.str (one 32)))], (w :: rs).length, .inl rfl, by simp, pre' ++ tx m y ++ [32], dn ++ [y], w :: rs, some y, some (.str (one 32)), ?_, ?_, by simp, rfl, ?_, ?_⟩)
      · rw [hl2]
        simp
      · rw [hds]
        simp
      · rw [hpl]
        omega
      · rw [hpi]
        rfl
end Lk27

namespace Lk27
open PySem L2 DL PyProof.Rows Md Sh ShW ShN TX TL ShP
theorem read_value_r {T : Str} (hT : T.length ≤ 10 ^ 6) : ∀ (n : Nat) (d : D), Pl n d → ∀ k, n ≤ k → ∀ (pre post : List Nat) (e : Int), T.cps.toList = pre ++ (tx n d ++ post) → Beh post → e + n ≤ 40 →
    S_read_value k [.f (.str T), .f (.int (pre.length : Int)), .f (.int e)] = .ok (.f (.tuple [d, .int ((pre.length + (tx n d).length : Nat) : Int)]), []) := by
  intro n
  induction n with
  | zero =>
    intro d h k _ pre post e hl hp _
    exact read_atom h hT hl hp
  | succ n ih =>
    intro d h k hk pre post e hl hp he
    rcases h.cases with ⟨ha, ht⟩ | ⟨m, ds, hm, rfl, h3, hpd, ht⟩
    · rw [ht] at hl ⊢
      exact read_atom ha hT hl hp
    · obtain rfl : n = m := by omega
      rw [ht] at hl ⊢
      obtain ⟨k, rfl⟩ : ∃ j, k = j + 1 := ⟨k - 1, by omega⟩
      have hl2 : T.cps.toList = (pre ++ [40]) ++ (jn (ds.map (tx n)) ++ 41 :: post) := by
        rw [hl]
        simp
      have hr := read_tup (SV := S_read_value k) (e := e + 1) hT h3 hpd (fun x hx pr po h1 h2 => ih x (hpd x hx) k (by omega) pr po (e + 1) h1 h2 (by omega)) hl2
      rw [List.length_append, show (((pre.length + [40].length : Nat)) : Int) = (pre.length : Int) + 1 by simp] at hr
      refine wp_val (S := S_read_tupleP (k + 1)) (c := 40) (post := jn (ds.map (tx n)) ++ 41 :: post) hT (by rw [hl2]; simp) (.inr (.inr (.inl ⟨rfl, by omega, ?_⟩)))
      have : pre.length + [40].length + (jn (ds.map (tx n))).length + 1 = pre.length + (40 :: (jn (ds.map (tx n)) ++ [41])).length := by
        simp
        omega
      rw [this] at hr
      exact hr
theorem read_plain_r {T : Str} {n : Nat} {d : D} (hT : T.length ≤ 10 ^ 6) (h : Pl n d) (hn : n ≤ 40) (hl : T.cps.toList = tx n d) : S_read_plain [.f (.str T)] = .ok (.f d, []) := by
  have kv := read_value_r hT n d h 41 (by omega) [] [] 0 (by rw [hl]; simp) (fun c hc => by simp at hc) (by omega)
  have e1 : (([] : List Nat).length + (tx n d).length : Nat) = T.length := by rw [len_cps, hl]; simp
  rw [e1] at kv
  have kv' : S_read_value 41 [.f (.str T), .f (.int 0), .f (.int 0)] = .ok (.f (.tuple [d, .int (T.length : Int)]), []) := kv
  have kl := len_r hT
  generalize (T.length : Int) = z at *
  refine spN_r rfl (run_rt (e := [some (.f (.str T)), none, none]) rfl rfl ?_)
  unfold m_read_plain
  refine DL.wp_nx (by simp -implicitDefEqProofs [kv'] <;> (repeat' (first | rfl | apply And.intro))) ?_
  have : ¬ z < z := by omega
  refine DL.wp_nx (by simp -implicitDefEqProofs [kl, this] <;> (repeat' (first | rfl | apply And.intro))) ?_
  (first | exact DL.wp_ret (by simp -implicitDefEqProofs [] <;> (repeat' (first | rfl | apply And.intro))) | exact DL.wp_rt (by simp -implicitDefEqProofs [] <;> (repeat' (first | rfl | apply And.intro))))
theorem wrap_r {n : Nat} {v : D} {L : Nat} (h : Pl n v) (hl : (tx n v).length ≤ L) : Pl (n + 1) (.tuple [v]) ∧ (tx (n + 1) (.tuple [v])).length ≤ L + 2 := by
  refine ⟨⟨by simp, fun x hx => ?_⟩, ?_⟩
  · rw [List.mem_singleton.mp hx]
    exact h
  · show (40 :: (tx n v ++ [41])).length ≤ _
    simp
    omega
theorem law_run (ns : List Int) : runD NL ML [.f (.ro (ns.map .int))] = .ok (.f (.bool true), []) := by
  obtain ⟨ds, dl, hd⟩ := digits_r ns
  have hx := allI_ints ds
  obtain ⟨xs, hxs⟩ : ∃ xs, xs = ds.map D.int := ⟨_, rfl⟩
  rw [← hxs] at hd hx
  refine run_rt (e := [some (.f (.ro (ns.map .int))), none, none, none, none, none]) rfl rfl ?_
  generalize D.ro (ns.map .int) = r at *
  unfold ML m_law_ec53e0
  refine DL.wp_nx (by simp -implicitDefEqProofs [hd] <;> (repeat' (first | rfl | apply And.intro))) ?_
  have hc4 : ((cst 4 : Nat) : Int) = 1210 := by decide
  refine wp_ex (for_u (List.range 6) (fun (k : Nat) => D.int (k : Int)) [1, 2, 3, 4, 5] (fun k vs => ∃ (t : Int) (c2 c3 c4 c5 : Option D), 0 ≤ t ∧ t ≤ 1211 * (k : Int) ∧ vs = [some (.l false [.list xs, .int t]), c2.map .f, c3.map .f, c4.map .f, c5.map .f]) (rng1_n (n := 6) (by simp -implicitDefEqProofs [] <;> rfl) (by omega)) [some (.l false [.list xs, .int 0]), none, none, none, none] rfl ⟨0, none, none, none, none, by decide, by decide, rfl⟩ ?_) ?_
  · rintro k v vs hk ⟨t, c2, c3, c4, c5, t0, t1, rfl⟩
    obtain ⟨hkn, rfl⟩ := List.getElem?_eq_some_iff.mp hk
    rw [List.length_range] at hkn
    simp only [List.getElem_range]
    refine ⟨_, tgN_f (a := c2) rfl, ?_⟩
    unfold m_law_ec53e0_b2
    obtain ⟨v, t', kv, a1, a2, pv, lv⟩ := value_r hx 4 (by decide) t t0 (by omega)
    have kv' : S_law_value 4 [.l true [.list xs, .int t], .f (.int 4)] = .ok (.f v, [.l true [.list xs, .int t']]) := kv
    obtain ⟨tb, htb⟩ : ∃ tb, t' + 1 = tb := ⟨_, rfl⟩
    obtain ⟨j, kj, lj⟩ := dr7 hx 4 (M := 4) (t := t') rfl htb (by omega) (by omega) (by decide) (by decide)
    obtain ⟨w, hw, hw36⟩ : ∃ w : Nat, ixD (.list [.int 0, .int 0, .int 0, .int 36]) (.int (j : Int)) = .ok (.f (.int (w : Int))) ∧ w ≤ 36 := by
      rcases (show j = 0 ∨ j = 1 ∨ j = 2 ∨ j = 3 by omega) with rfl | rfl | rfl | rfl
      · exact ⟨0, rfl, by decide⟩
      · exact ⟨0, rfl, by decide⟩
      · exact ⟨0, rfl, by decide⟩
      · exact ⟨36, rfl, by decide⟩
    obtain ⟨kI, hkI⟩ : ∃ a : Int, (k : Int) = a := ⟨_, rfl⟩
    rw [hkI]
    refine DL.wp_nx (by simp -implicitDefEqProofs [kv'] <;> (repeat' (first | rfl | apply And.intro))) ?_
    refine wp_ex (for_u (List.range w) (fun (k : Nat) => D.int (k : Int)) [3, 4] (fun k vs => ∃ (v' : D) (c4 : Option D), Pl (4 + k) v' ∧ (tx (4 + k) v').length ≤ bd 4 + 2 * k ∧ vs = [some (.f v'), c4.map .f]) (rng1_n (n := w) (e' := [some (.f r), some (.l false [.list xs, .int tb]), some (.f (.int kI)), some (.f v), c4.map .f, c5.map .f]) (by simp -implicitDefEqProofs [kj, hw] <;> rfl) (by omega)) [some (.f v), c4.map .f] rfl ⟨v, c4, pv, by omega, rfl⟩ ?_) ?_
    · rintro i u vs hi ⟨v', c4', pv', lv', rfl⟩
      refine ⟨_, tgN_f (a := c4') rfl, ?_⟩
      obtain ⟨p2, l2⟩ := wrap_r pv' lv'
      exact wp_end (o := .nx [some (.f r), some (.l false [.list xs, .int tb]), some (.f (.int kI)), some (.f (.tuple [v'])), some (.f (.int (u : Int))), c5.map .f]) (by simp -implicitDefEqProofs [m_law_ec53e0_b1] <;> rfl) ⟨[some (.f (.tuple [v'])), some (.f (.int (u : Int)))], rfl, .tuple [v'], some (.int (u : Int)), p2, by omega, rfl⟩
    · rintro en ⟨vs, rfl, v', c4', pv', lv', rfl⟩
      rw [List.length_range] at pv' lv'
      have hb4 : bd 4 = 5203 := by decide
      obtain ⟨s, ks, hs⟩ := law_plain_r (4 + w) v' pv' (by omega) 41 (by omega)
      obtain ⟨s', ks', hs'⟩ := show_plain_r (4 + w) v' pv' (by omega) 41 (by omega)
      obtain rfl : s' = s := str_ext (by rw [hs, hs'])
      have hsl : s'.length ≤ 10 ^ 6 := by rw [len_cps, hs]; omega
      have kr := read_plain_r hsl pv' (by omega) hs
      have k1 : S_law_same 41 [.f (.str s'), .f (.str s')] = .ok (.f (.bool true), []) := same_str (S := S_law_sameP 41)
      have k2 := same_r (4 + w) v' pv' 41 (by omega)
      refine DL.wp_nx (by simp -implicitDefEqProofs [ks] <;> (repeat' (first | rfl | apply And.intro))) ?_
      refine wp_end (o := .nx [some (.f r), some (.l false [.list xs, .int tb]), some (.f (.int kI)), some (.f v'), c4'.map .f, some (.f (.str s'))]) (by simp -implicitDefEqProofs [ks', kr, k1, k2]) ⟨[some (.l false [.list xs, .int tb]), some (.f (.int kI)), some (.f v'), c4'.map .f, some (.f (.str s'))], rfl, tb, some (.int kI), some v', c4', some (.str s'), by omega, by omega, rfl⟩
  · rintro en ⟨vs, rfl, t, c2, c3, c4, c5, t0, t1, rfl⟩
    exact wp_end (by simp -implicitDefEqProofs [] <;> rfl) ⟨_, rfl⟩
end Lk27

namespace Lk27
open PySem L2 DL PyProof.Rows Md Sh
theorem all_mk {l : PySem.W.OpenLaw} {w : World} {K : PySem.W.Frag} {h : Heap} {mg : Str → Option Value} {fa f0 f1 f2 f3 f4 f5 f6 f7 f8 f9 f10 f11 f12 : Addr} (X : K.In h) (G : h.Ns mainGlobals mg) (hfa : mg "law" = some (.ref fa))
    {od0 an0 od1 an1 od2 an2 od3 an3 od4 an4 od5 an5 od6 an6 od7 an7 od8 an8 od9 an9 od10 an10 od11 an11 od12 an12 : Option Addr} {sl0 sl1 sl2 sl3 sl4 sl5 sl6 sl7 sl8 sl9 sl10 sl11 sl12 : Array (Option Value)} {oc0 kV0 dc0 pm0 cd0 ct0 oc1 kV1 dc1 pm1 cd1 ct1 oc2 kV2 dc2 pm2 cd2 ct2 oc3 kV3 dc3 pm3 cd3 ct3 oc4 kV4 dc4 pm4 cd4 ct4 oc5 kV5 dc5 pm5 cd5 ct5 oc6 kV6 dc6 pm6 cd6 ct6 oc7 kV7 dc7 pm7 cd7 ct7 oc8 kV8 dc8 pm8 cd8 ct8 oc9 kV9 dc9 pm9 cd9 ct9 oc10 kV10 dc10 pm10 cd10 ct10 oc11 kV11 dc11 pm11 cd11 ct11 oc12 kV12 dc12 pm12 cd12 ct12 : Value}
    (a0 : PySem.W.nsIn K mainGlobals "_law_cell" = some (some (.ref f0))) (l0 : K.lookup f0 = some ⟨oc0, od0, .func (PySem.W.fnOf "_law_cell" "_law_cell" (defArgs s_law_cell) (defBody s_law_cell) (defScope s_law_cell) .none kV0 dc0 pm0 an0 cd0 ct0), sl0⟩) (c0 : PySem.W.codeIn K cd0 "_law_cell" = true) (k0 : PySem.W.keepIn K (.ref f0) = true)
    (a1 : PySem.W.nsIn K mainGlobals "_law_digits" = some (some (.ref f1))) (l1 : K.lookup f1 = some ⟨oc1, od1, .func (PySem.W.fnOf "_law_digits" "_law_digits" (defArgs s_law_digits) (defBody s_law_digits) (defScope s_law_digits) .none kV1 dc1 pm1 an1 cd1 ct1), sl1⟩) (c1 : PySem.W.codeIn K cd1 "_law_digits" = true) (k1 : PySem.W.keepIn K (.ref f1) = true)
    (a2 : PySem.W.nsIn K mainGlobals "_law_draw" = some (some (.ref f2))) (l2 : K.lookup f2 = some ⟨oc2, od2, .func (PySem.W.fnOf "_law_draw" "_law_draw" (defArgs s_law_draw) (defBody s_law_draw) (defScope s_law_draw) .none kV2 dc2 pm2 an2 cd2 ct2), sl2⟩) (c2 : PySem.W.codeIn K cd2 "_law_draw" = true) (k2 : PySem.W.keepIn K (.ref f2) = true)
    (a3 : PySem.W.nsIn K mainGlobals "_law_value" = some (some (.ref f3))) (l3 : K.lookup f3 = some ⟨oc3, od3, .func (PySem.W.fnOf "_law_value" "_law_value" (defArgs s_law_value) (defBody s_law_value) (defScope s_law_value) .none kV3 dc3 pm3 an3 cd3 ct3), sl3⟩) (c3 : PySem.W.codeIn K cd3 "_law_value" = true) (k3 : PySem.W.keepIn K (.ref f3) = true)
    (a4 : PySem.W.nsIn K mainGlobals "_law_plain" = some (some (.ref f4))) (l4 : K.lookup f4 = some ⟨oc4, od4, .func (PySem.W.fnOf "_law_plain" "_law_plain" (defArgs s_law_plain) (defBody s_law_plain) (defScope s_law_plain) .none kV4 dc4 pm4 an4 cd4 ct4), sl4⟩) (c4 : PySem.W.codeIn K cd4 "_law_plain" = true) (k4 : PySem.W.keepIn K (.ref f4) = true)
    (a5 : PySem.W.nsIn K mainGlobals "_law_same" = some (some (.ref f5))) (l5 : K.lookup f5 = some ⟨oc5, od5, .func (PySem.W.fnOf "_law_same" "_law_same" (defArgs s_law_same) (defBody s_law_same) (defScope s_law_same) .none kV5 dc5 pm5 an5 cd5 ct5), sl5⟩) (c5 : PySem.W.codeIn K cd5 "_law_same" = true) (k5 : PySem.W.keepIn K (.ref f5) = true)
    (a6 : PySem.W.nsIn K mainGlobals "show_plain" = some (some (.ref f6))) (l6 : K.lookup f6 = some ⟨oc6, od6, .func (PySem.W.fnOf "show_plain" "show_plain" (defArgs s_show_plain) (defBody s_show_plain) (defScope s_show_plain) .none kV6 dc6 pm6 an6 cd6 ct6), sl6⟩) (c6 : PySem.W.codeIn K cd6 "show_plain" = true) (k6 : PySem.W.keepIn K (.ref f6) = true)
    (a7 : PySem.W.nsIn K mainGlobals "_read_string" = some (some (.ref f7))) (l7 : K.lookup f7 = some ⟨oc7, od7, .func (PySem.W.fnOf "_read_string" "_read_string" (defArgs s_read_string) (defBody s_read_string) (defScope s_read_string) .none kV7 dc7 pm7 an7 cd7 ct7), sl7⟩) (c7 : PySem.W.codeIn K cd7 "_read_string" = true) (k7 : PySem.W.keepIn K (.ref f7) = true)
    (a8 : PySem.W.nsIn K mainGlobals "_read_integer" = some (some (.ref f8))) (l8 : K.lookup f8 = some ⟨oc8, od8, .func (PySem.W.fnOf "_read_integer" "_read_integer" (defArgs s_read_integer) (defBody s_read_integer) (defScope s_read_integer) .none kV8 dc8 pm8 an8 cd8 ct8), sl8⟩) (c8 : PySem.W.codeIn K cd8 "_read_integer" = true) (k8 : PySem.W.keepIn K (.ref f8) = true)
    (a9 : PySem.W.nsIn K mainGlobals "_read_tuple" = some (some (.ref f9))) (l9 : K.lookup f9 = some ⟨oc9, od9, .func (PySem.W.fnOf "_read_tuple" "_read_tuple" (defArgs s_read_tuple) (defBody s_read_tuple) (defScope s_read_tuple) .none kV9 dc9 pm9 an9 cd9 ct9), sl9⟩) (c9 : PySem.W.codeIn K cd9 "_read_tuple" = true) (k9 : PySem.W.keepIn K (.ref f9) = true)
    (a10 : PySem.W.nsIn K mainGlobals "_read_value" = some (some (.ref f10))) (l10 : K.lookup f10 = some ⟨oc10, od10, .func (PySem.W.fnOf "_read_value" "_read_value" (defArgs s_read_value) (defBody s_read_value) (defScope s_read_value) .none kV10 dc10 pm10 an10 cd10 ct10), sl10⟩) (c10 : PySem.W.codeIn K cd10 "_read_value" = true) (k10 : PySem.W.keepIn K (.ref f10) = true)
    (a11 : PySem.W.nsIn K mainGlobals "read_plain" = some (some (.ref f11))) (l11 : K.lookup f11 = some ⟨oc11, od11, .func (PySem.W.fnOf "read_plain" "read_plain" (defArgs s_read_plain) (defBody s_read_plain) (defScope s_read_plain) .none kV11 dc11 pm11 an11 cd11 ct11), sl11⟩) (c11 : PySem.W.codeIn K cd11 "read_plain" = true) (k11 : PySem.W.keepIn K (.ref f11) = true)
    (a12 : PySem.W.nsIn K mainGlobals "law" = some (some (.ref f12))) (l12 : K.lookup f12 = some ⟨oc12, od12, .func (PySem.W.fnOf "law" "law" (defArgs s_law) (defBody s_law) (defScope s_law) .none kV12 dc12 pm12 an12 cd12 ct12), sl12⟩) (c12 : PySem.W.codeIn K cd12 "law" = true) (k12 : PySem.W.keepIn K (.ref f12) = true)
    {z0t : Tok} (z0 : PySem.W.nsIn K mainGlobals "DEEPEST" = some (some (.int 40 z0t)))
    {z1t : Tok} (z1 : PySem.W.nsIn K mainGlobals "DIGITS" = some (some (.str "0123456789" z1t)))
    {z2a : Addr} {z2es : Array DictEntry} {z2n : Nat} {z2t0 : Tok} {z2t1 : Tok} {z2t2 : Tok} (z2 : PySem.W.nsIn K mainGlobals "ESCAPES" = some (some (.ref z2a)))
    (z2d : K.lookup z2a = some ⟨.type "dict", none, .dict z2es z2n, #[]⟩) (z2l : PySem.W.KeysLit w.params z2es.toList) (z2s : (z2a == sysModules) = false)
    (z2k0 : PySem.W.nsIn K z2a "\"" = some (some (.str "\"" z2t0)))
    (z2k1 : PySem.W.nsIn K z2a "\\" = some (some (.str "\\" z2t1)))
    (z2k2 : PySem.W.nsIn K z2a "n" = some (some (.str "\n" z2t2)))
    {z3t : Tok} (z3 : PySem.W.nsIn K mainGlobals "MOST_DIGITS" = some (some (.int 2000 z3t)))
    {z4a : Addr} {z4es : Array DictEntry} {z4n : Nat} (z4 : PySem.W.nsIn K mainGlobals "WORDS" = some (some (.ref z4a)))
    (z4d : K.lookup z4a = some ⟨.type "dict", none, .dict z4es z4n, #[]⟩) (z4l : PySem.W.KeysLit w.params z4es.toList) (z4s : (z4a == sysModules) = false)
    (z4k0 : PySem.W.nsIn K z4a "T" = some (some (.bool true)))
    (z4k1 : PySem.W.nsIn K z4a "F" = some (some (.bool false)))
    (z4k2 : PySem.W.nsIn K z4a "N" = some (some (.none)))
    (z4m0 : PySem.W.nsIn K z4a "\"" = some none)
    (z4m1 : PySem.W.nsIn K z4a "(" = some none)
    (z4m2 : PySem.W.nsIn K z4a "-" = some none)
    (z4m3 : PySem.W.nsIn K z4a "0" = some none)
    (z4m4 : PySem.W.nsIn K z4a "1" = some none)
    (z4m5 : PySem.W.nsIn K z4a "2" = some none)
    (z4m6 : PySem.W.nsIn K z4a "3" = some none)
    (z4m7 : PySem.W.nsIn K z4a "4" = some none)
    (z4m8 : PySem.W.nsIn K z4a "5" = some none)
    (z4m9 : PySem.W.nsIn K z4a "6" = some none)
    (z4m10 : PySem.W.nsIn K z4a "7" = some none)
    (z4m11 : PySem.W.nsIn K z4a "8" = some none)
    (z4m12 : PySem.W.nsIn K z4a "9" = some none)
    (z5 : PySem.W.nsIn K mainGlobals "bool" = some none)
    (z6 : PySem.W.nsIn K mainGlobals "int" = some none)
    (z7 : PySem.W.nsIn K mainGlobals "isinstance" = some none)
    (z8 : PySem.W.nsIn K mainGlobals "len" = some none)
    (z9 : PySem.W.nsIn K mainGlobals "range" = some none)
    (z10 : PySem.W.nsIn K mainGlobals "str" = some none)
    (z11 : PySem.W.nsIn K mainGlobals "tuple" = some none) :
    ∃ fd : FuncData, (∀ (s : Shared) (v : Value), BindsTo s fd ⟨[v], []⟩ [("script", v)]) ∧ ∀ base : Heap, K.In base → base.Ns mainGlobals mg → FnOk l.prog w K mg base CX0 86 fa fd ["script"] (spD K (lawS 63)) := by
  have e := hfa.symm.trans (PySem.W.mg_of X G a12)
  cases e
  have A0 : At1 K mg "_law_cell" s_law_cell p_law_cell f0 (PySem.W.fnOf "_law_cell" "_law_cell" (defArgs s_law_cell) (defBody s_law_cell) (defScope s_law_cell) .none kV0 dc0 pm0 an0 cd0 ct0) := ⟨fun_mk (st := s_law_cell) l0 c0 k0, PySem.W.mg_of X G a0, (fun_mk (st := s_law_cell) l0 c0 k0).binds (ps := p_law_cell) fun _ _ _ _ _ _ us hl => match us, hl with | [_, _], _ => rfl⟩
  have A1 : At1 K mg "_law_digits" s_law_digits p_law_digits f1 (PySem.W.fnOf "_law_digits" "_law_digits" (defArgs s_law_digits) (defBody s_law_digits) (defScope s_law_digits) .none kV1 dc1 pm1 an1 cd1 ct1) := ⟨fun_mk (st := s_law_digits) l1 c1 k1, PySem.W.mg_of X G a1, (fun_mk (st := s_law_digits) l1 c1 k1).binds (ps := p_law_digits) fun _ _ _ _ _ _ us hl => match us, hl with | [_, _, _], _ => rfl⟩
  have A2 : At1 K mg "_law_draw" s_law_draw p_law_draw f2 (PySem.W.fnOf "_law_draw" "_law_draw" (defArgs s_law_draw) (defBody s_law_draw) (defScope s_law_draw) .none kV2 dc2 pm2 an2 cd2 ct2) := ⟨fun_mk (st := s_law_draw) l2 c2 k2, PySem.W.mg_of X G a2, (fun_mk (st := s_law_draw) l2 c2 k2).binds (ps := p_law_draw) fun _ _ _ _ _ _ us hl => match us, hl with | [_, _], _ => rfl⟩
  have A3 : At1 K mg "_law_value" s_law_value p_law_value f3 (PySem.W.fnOf "_law_value" "_law_value" (defArgs s_law_value) (defBody s_law_value) (defScope s_law_value) .none kV3 dc3 pm3 an3 cd3 ct3) := ⟨fun_mk (st := s_law_value) l3 c3 k3, PySem.W.mg_of X G a3, (fun_mk (st := s_law_value) l3 c3 k3).binds (ps := p_law_value) fun _ _ _ _ _ _ us hl => match us, hl with | [_, _], _ => rfl⟩
  have A4 : At1 K mg "_law_plain" s_law_plain p_law_plain f4 (PySem.W.fnOf "_law_plain" "_law_plain" (defArgs s_law_plain) (defBody s_law_plain) (defScope s_law_plain) .none kV4 dc4 pm4 an4 cd4 ct4) := ⟨fun_mk (st := s_law_plain) l4 c4 k4, PySem.W.mg_of X G a4, (fun_mk (st := s_law_plain) l4 c4 k4).binds (ps := p_law_plain) fun _ _ _ _ _ _ us hl => match us, hl with | [_], _ => rfl⟩
  have A5 : At1 K mg "_law_same" s_law_same p_law_same f5 (PySem.W.fnOf "_law_same" "_law_same" (defArgs s_law_same) (defBody s_law_same) (defScope s_law_same) .none kV5 dc5 pm5 an5 cd5 ct5) := ⟨fun_mk (st := s_law_same) l5 c5 k5, PySem.W.mg_of X G a5, (fun_mk (st := s_law_same) l5 c5 k5).binds (ps := p_law_same) fun _ _ _ _ _ _ us hl => match us, hl with | [_, _], _ => rfl⟩
  have A6 : At1 K mg "show_plain" s_show_plain p_show_plain f6 (PySem.W.fnOf "show_plain" "show_plain" (defArgs s_show_plain) (defBody s_show_plain) (defScope s_show_plain) .none kV6 dc6 pm6 an6 cd6 ct6) := ⟨fun_mk (st := s_show_plain) l6 c6 k6, PySem.W.mg_of X G a6, (fun_mk (st := s_show_plain) l6 c6 k6).binds (ps := p_show_plain) fun _ _ _ _ _ _ us hl => match us, hl with | [_], _ => rfl⟩
  have A7 : At1 K mg "_read_string" s_read_string p_read_string f7 (PySem.W.fnOf "_read_string" "_read_string" (defArgs s_read_string) (defBody s_read_string) (defScope s_read_string) .none kV7 dc7 pm7 an7 cd7 ct7) := ⟨fun_mk (st := s_read_string) l7 c7 k7, PySem.W.mg_of X G a7, (fun_mk (st := s_read_string) l7 c7 k7).binds (ps := p_read_string) fun _ _ _ _ _ _ us hl => match us, hl with | [_, _], _ => rfl⟩
  have A8 : At1 K mg "_read_integer" s_read_integer p_read_integer f8 (PySem.W.fnOf "_read_integer" "_read_integer" (defArgs s_read_integer) (defBody s_read_integer) (defScope s_read_integer) .none kV8 dc8 pm8 an8 cd8 ct8) := ⟨fun_mk (st := s_read_integer) l8 c8 k8, PySem.W.mg_of X G a8, (fun_mk (st := s_read_integer) l8 c8 k8).binds (ps := p_read_integer) fun _ _ _ _ _ _ us hl => match us, hl with | [_, _], _ => rfl⟩
  have A9 : At1 K mg "_read_tuple" s_read_tuple p_read_tuple f9 (PySem.W.fnOf "_read_tuple" "_read_tuple" (defArgs s_read_tuple) (defBody s_read_tuple) (defScope s_read_tuple) .none kV9 dc9 pm9 an9 cd9 ct9) := ⟨fun_mk (st := s_read_tuple) l9 c9 k9, PySem.W.mg_of X G a9, (fun_mk (st := s_read_tuple) l9 c9 k9).binds (ps := p_read_tuple) fun _ _ _ _ _ _ us hl => match us, hl with | [_, _, _], _ => rfl⟩
  have A10 : At1 K mg "_read_value" s_read_value p_read_value f10 (PySem.W.fnOf "_read_value" "_read_value" (defArgs s_read_value) (defBody s_read_value) (defScope s_read_value) .none kV10 dc10 pm10 an10 cd10 ct10) := ⟨fun_mk (st := s_read_value) l10 c10 k10, PySem.W.mg_of X G a10, (fun_mk (st := s_read_value) l10 c10 k10).binds (ps := p_read_value) fun _ _ _ _ _ _ us hl => match us, hl with | [_, _, _], _ => rfl⟩
  have A11 : At1 K mg "read_plain" s_read_plain p_read_plain f11 (PySem.W.fnOf "read_plain" "read_plain" (defArgs s_read_plain) (defBody s_read_plain) (defScope s_read_plain) .none kV11 dc11 pm11 an11 cd11 ct11) := ⟨fun_mk (st := s_read_plain) l11 c11 k11, PySem.W.mg_of X G a11, (fun_mk (st := s_read_plain) l11 c11 k11).binds (ps := p_read_plain) fun _ _ _ _ _ _ us hl => match us, hl with | [_], _ => rfl⟩
  have A12 : At1 K mg "law" s_law p_law fa (PySem.W.fnOf "law" "law" (defArgs s_law) (defBody s_law) (defScope s_law) .none kV12 dc12 pm12 an12 cd12 ct12) := ⟨fun_mk (st := s_law) l12 c12 k12, PySem.W.mg_of X G a12, (fun_mk (st := s_law) l12 c12 k12).binds (ps := p_law) fun _ _ _ _ _ _ us hl => match us, hl with | [_], _ => rfl⟩
  have T : Txt K w mg := ⟨⟨_, PySem.W.mg_of X G z0⟩, ⟨_, PySem.W.mg_of X G z1⟩, ⟨(by
      refine ⟨_, _, _, PySem.W.mg_of X G z2, ⟨z2d, z2l, z2s⟩, ?_, ?_⟩
      · intro p hp
        simp only [kd_ESCAPES, List.mem_cons, List.not_mem_nil, or_false] at hp
        rcases hp with rfl | rfl | rfl
        · exact ⟨_, .str "\"", z2k0, ⟨_, rfl⟩, fun _ => .str _⟩
        · exact ⟨_, .str "\\", z2k1, ⟨_, rfl⟩, fun _ => .str _⟩
        · exact ⟨_, .str "\n", z2k2, ⟨_, rfl⟩, fun _ => .str _⟩
      · intro y hy
        simp [ms_ESCAPES] at hy)⟩, ⟨_, PySem.W.mg_of X G z3⟩, ⟨(by
      refine ⟨_, _, _, PySem.W.mg_of X G z4, ⟨z4d, z4l, z4s⟩, ?_, ?_⟩
      · intro p hp
        simp only [kd_WORDS, List.mem_cons, List.not_mem_nil, or_false] at hp
        rcases hp with rfl | rfl | rfl
        · exact ⟨_, .bl true, z4k0, rfl, fun _ => .bl _⟩
        · exact ⟨_, .bl false, z4k1, rfl, fun _ => .bl _⟩
        · exact ⟨_, .non, z4k2, rfl, fun _ => .non⟩
      · intro y hy
        simp only [ms_WORDS, List.mem_cons, List.not_mem_nil, or_false] at hy
        rcases hy with rfl | rfl | rfl | rfl | rfl | rfl | rfl | rfl | rfl | rfl | rfl | rfl | rfl
        · exact z4m0
        · exact z4m1
        · exact z4m2
        · exact z4m3
        · exact z4m4
        · exact z4m5
        · exact z4m6
        · exact z4m7
        · exact z4m8
        · exact z4m9
        · exact z4m10
        · exact z4m11
        · exact z4m12)⟩, PySem.W.mg_none_of X G z5, PySem.W.mg_none_of X G z6, PySem.W.mg_none_of X G z7, PySem.W.mg_none_of X G z8, PySem.W.mg_none_of X G z9, PySem.W.mg_none_of X G z10, PySem.W.mg_none_of X G z11⟩
  refine ⟨PySem.W.fnOf "law" "law" (defArgs s_law) (defBody s_law) (defScope s_law) .none kV12 dc12 pm12 an12 cd12 ct12, fun s v => .of_eq rfl, fun base _ _ => ?_⟩
  have d0 : DFn l.prog w K mg base "_law_cell" 1 S_cell := der_law_cell A0 T  (k := 0)  sem_cell
  have d1 : DFn l.prog w K mg base "_law_digits" 2 S_law_digits := der_law_digits A1 T d0 (k := 1) (by decide) sem_law_digits
  have d2 : DFn l.prog w K mg base "_law_draw" 1 S_draw := der_law_draw A2 T  (k := 0)  sem_draw
  have d3_p : DFn l.prog w K mg base "_law_value" 1 (S_law_valueP 0) := dfn_no A3 sc_law_value (by decide)
  have d3_0 : DFn l.prog w K mg base "_law_value" 2 (S_law_value 0) := der_law_value A3 T d2 d3_p (k := 1) (by decide) (by decide) (sem_law_value 0)
  have d3_1 : DFn l.prog w K mg base "_law_value" 3 (S_law_value 1) := der_law_value A3 T d2 d3_0 (k := 2) (by decide) (by decide) (sem_law_value 1)
  have d3_2 : DFn l.prog w K mg base "_law_value" 4 (S_law_value 2) := der_law_value A3 T d2 d3_1 (k := 3) (by decide) (by decide) (sem_law_value 2)
  have d3_3 : DFn l.prog w K mg base "_law_value" 5 (S_law_value 3) := der_law_value A3 T d2 d3_2 (k := 4) (by decide) (by decide) (sem_law_value 3)
  have d3_4 : DFn l.prog w K mg base "_law_value" 6 (S_law_value 4) := der_law_value A3 T d2 d3_3 (k := 5) (by decide) (by decide) (sem_law_value 4)
  have d3 := d3_4
  have d4_p : DFn l.prog w K mg base "_law_plain" 1 (S_law_plainP 0) := dfn_no A4 sc_law_plain (by decide)
  have d4_0 : DFn l.prog w K mg base "_law_plain" 2 (S_law_plain 0) := der_law_plain A4 T d4_p (k := 1) (by decide) (sem_law_plain 0)
  have d4_1 : DFn l.prog w K mg base "_law_plain" 3 (S_law_plain 1) := der_law_plain A4 T d4_0 (k := 2) (by decide) (sem_law_plain 1)
  have d4_2 : DFn l.prog w K mg base "_law_plain" 4 (S_law_plain 2) := der_law_plain A4 T d4_1 (k := 3) (by decide) (sem_law_plain 2)
  have d4_3 : DFn l.prog w K mg base "_law_plain" 5 (S_law_plain 3) := der_law_plain A4 T d4_2 (k := 4) (by decide) (sem_law_plain 3)
  have d4_4 : DFn l.prog w K mg base "_law_plain" 6 (S_law_plain 4) := der_law_plain A4 T d4_3 (k := 5) (by decide) (sem_law_plain 4)
  have d4_5 : DFn l.prog w K mg base "_law_plain" 7 (S_law_plain 5) := der_law_plain A4 T d4_4 (k := 6) (by decide) (sem_law_plain 5)
  have d4_6 : DFn l.prog w K mg base "_law_plain" 8 (S_law_plain 6) := der_law_plain A4 T d4_5 (k := 7) (by decide) (sem_law_plain 6)
  have d4_7 : DFn l.prog w K mg base "_law_plain" 9 (S_law_plain 7) := der_law_plain A4 T d4_6 (k := 8) (by decide) (sem_law_plain 7)
  have d4_8 : DFn l.prog w K mg base "_law_plain" 10 (S_law_plain 8) := der_law_plain A4 T d4_7 (k := 9) (by decide) (sem_law_plain 8)
  have d4_9 : DFn l.prog w K mg base "_law_plain" 11 (S_law_plain 9) := der_law_plain A4 T d4_8 (k := 10) (by decide) (sem_law_plain 9)
  have d4_10 : DFn l.prog w K mg base "_law_plain" 12 (S_law_plain 10) := der_law_plain A4 T d4_9 (k := 11) (by decide) (sem_law_plain 10)
  have d4_11 : DFn l.prog w K mg base "_law_plain" 13 (S_law_plain 11) := der_law_plain A4 T d4_10 (k := 12) (by decide) (sem_law_plain 11)
  have d4_12 : DFn l.prog w K mg base "_law_plain" 14 (S_law_plain 12) := der_law_plain A4 T d4_11 (k := 13) (by decide) (sem_law_plain 12)
  have d4_13 : DFn l.prog w K mg base "_law_plain" 15 (S_law_plain 13) := der_law_plain A4 T d4_12 (k := 14) (by decide) (sem_law_plain 13)
  have d4_14 : DFn l.prog w K mg base "_law_plain" 16 (S_law_plain 14) := der_law_plain A4 T d4_13 (k := 15) (by decide) (sem_law_plain 14)
  have d4_15 : DFn l.prog w K mg base "_law_plain" 17 (S_law_plain 15) := der_law_plain A4 T d4_14 (k := 16) (by decide) (sem_law_plain 15)
  have d4_16 : DFn l.prog w K mg base "_law_plain" 18 (S_law_plain 16) := der_law_plain A4 T d4_15 (k := 17) (by decide) (sem_law_plain 16)
  have d4_17 : DFn l.prog w K mg base "_law_plain" 19 (S_law_plain 17) := der_law_plain A4 T d4_16 (k := 18) (by decide) (sem_law_plain 17)
  have d4_18 : DFn l.prog w K mg base "_law_plain" 20 (S_law_plain 18) := der_law_plain A4 T d4_17 (k := 19) (by decide) (sem_law_plain 18)
  have d4_19 : DFn l.prog w K mg base "_law_plain" 21 (S_law_plain 19) := der_law_plain A4 T d4_18 (k := 20) (by decide) (sem_law_plain 19)
  have d4_20 : DFn l.prog w K mg base "_law_plain" 22 (S_law_plain 20) := der_law_plain A4 T d4_19 (k := 21) (by decide) (sem_law_plain 20)
  have d4_21 : DFn l.prog w K mg base "_law_plain" 23 (S_law_plain 21) := der_law_plain A4 T d4_20 (k := 22) (by decide) (sem_law_plain 21)
  have d4_22 : DFn l.prog w K mg base "_law_plain" 24 (S_law_plain 22) := der_law_plain A4 T d4_21 (k := 23) (by decide) (sem_law_plain 22)
  have d4_23 : DFn l.prog w K mg base "_law_plain" 25 (S_law_plain 23) := der_law_plain A4 T d4_22 (k := 24) (by decide) (sem_law_plain 23)
  have d4_24 : DFn l.prog w K mg base "_law_plain" 26 (S_law_plain 24) := der_law_plain A4 T d4_23 (k := 25) (by decide) (sem_law_plain 24)
  have d4_25 : DFn l.prog w K mg base "_law_plain" 27 (S_law_plain 25) := der_law_plain A4 T d4_24 (k := 26) (by decide) (sem_law_plain 25)
  have d4_26 : DFn l.prog w K mg base "_law_plain" 28 (S_law_plain 26) := der_law_plain A4 T d4_25 (k := 27) (by decide) (sem_law_plain 26)
  have d4_27 : DFn l.prog w K mg base "_law_plain" 29 (S_law_plain 27) := der_law_plain A4 T d4_26 (k := 28) (by decide) (sem_law_plain 27)
  have d4_28 : DFn l.prog w K mg base "_law_plain" 30 (S_law_plain 28) := der_law_plain A4 T d4_27 (k := 29) (by decide) (sem_law_plain 28)
  have d4_29 : DFn l.prog w K mg base "_law_plain" 31 (S_law_plain 29) := der_law_plain A4 T d4_28 (k := 30) (by decide) (sem_law_plain 29)
  have d4_30 : DFn l.prog w K mg base "_law_plain" 32 (S_law_plain 30) := der_law_plain A4 T d4_29 (k := 31) (by decide) (sem_law_plain 30)
  have d4_31 : DFn l.prog w K mg base "_law_plain" 33 (S_law_plain 31) := der_law_plain A4 T d4_30 (k := 32) (by decide) (sem_law_plain 31)
  have d4_32 : DFn l.prog w K mg base "_law_plain" 34 (S_law_plain 32) := der_law_plain A4 T d4_31 (k := 33) (by decide) (sem_law_plain 32)
  have d4_33 : DFn l.prog w K mg base "_law_plain" 35 (S_law_plain 33) := der_law_plain A4 T d4_32 (k := 34) (by decide) (sem_law_plain 33)
  have d4_34 : DFn l.prog w K mg base "_law_plain" 36 (S_law_plain 34) := der_law_plain A4 T d4_33 (k := 35) (by decide) (sem_law_plain 34)
  have d4_35 : DFn l.prog w K mg base "_law_plain" 37 (S_law_plain 35) := der_law_plain A4 T d4_34 (k := 36) (by decide) (sem_law_plain 35)
  have d4_36 : DFn l.prog w K mg base "_law_plain" 38 (S_law_plain 36) := der_law_plain A4 T d4_35 (k := 37) (by decide) (sem_law_plain 36)
  have d4_37 : DFn l.prog w K mg base "_law_plain" 39 (S_law_plain 37) := der_law_plain A4 T d4_36 (k := 38) (by decide) (sem_law_plain 37)
  have d4_38 : DFn l.prog w K mg base "_law_plain" 40 (S_law_plain 38) := der_law_plain A4 T d4_37 (k := 39) (by decide) (sem_law_plain 38)
  have d4_39 : DFn l.prog w K mg base "_law_plain" 41 (S_law_plain 39) := der_law_plain A4 T d4_38 (k := 40) (by decide) (sem_law_plain 39)
  have d4_40 : DFn l.prog w K mg base "_law_plain" 42 (S_law_plain 40) := der_law_plain A4 T d4_39 (k := 41) (by decide) (sem_law_plain 40)
  have d4_41 : DFn l.prog w K mg base "_law_plain" 43 (S_law_plain 41) := der_law_plain A4 T d4_40 (k := 42) (by decide) (sem_law_plain 41)
  have d4 := d4_41
  have d5_p : DFn l.prog w K mg base "_law_same" 1 (S_law_sameP 0) := dfn_no A5 sc_law_same (by decide)
  have d5_0 : DFn l.prog w K mg base "_law_same" 2 (S_law_same 0) := der_law_same A5 T d5_p (k := 1) (by decide) (sem_law_same 0)
  have d5_1 : DFn l.prog w K mg base "_law_same" 3 (S_law_same 1) := der_law_same A5 T d5_0 (k := 2) (by decide) (sem_law_same 1)
  have d5_2 : DFn l.prog w K mg base "_law_same" 4 (S_law_same 2) := der_law_same A5 T d5_1 (k := 3) (by decide) (sem_law_same 2)
  have d5_3 : DFn l.prog w K mg base "_law_same" 5 (S_law_same 3) := der_law_same A5 T d5_2 (k := 4) (by decide) (sem_law_same 3)
  have d5_4 : DFn l.prog w K mg base "_law_same" 6 (S_law_same 4) := der_law_same A5 T d5_3 (k := 5) (by decide) (sem_law_same 4)
  have d5_5 : DFn l.prog w K mg base "_law_same" 7 (S_law_same 5) := der_law_same A5 T d5_4 (k := 6) (by decide) (sem_law_same 5)
  have d5_6 : DFn l.prog w K mg base "_law_same" 8 (S_law_same 6) := der_law_same A5 T d5_5 (k := 7) (by decide) (sem_law_same 6)
  have d5_7 : DFn l.prog w K mg base "_law_same" 9 (S_law_same 7) := der_law_same A5 T d5_6 (k := 8) (by decide) (sem_law_same 7)
  have d5_8 : DFn l.prog w K mg base "_law_same" 10 (S_law_same 8) := der_law_same A5 T d5_7 (k := 9) (by decide) (sem_law_same 8)
  have d5_9 : DFn l.prog w K mg base "_law_same" 11 (S_law_same 9) := der_law_same A5 T d5_8 (k := 10) (by decide) (sem_law_same 9)
  have d5_10 : DFn l.prog w K mg base "_law_same" 12 (S_law_same 10) := der_law_same A5 T d5_9 (k := 11) (by decide) (sem_law_same 10)
  have d5_11 : DFn l.prog w K mg base "_law_same" 13 (S_law_same 11) := der_law_same A5 T d5_10 (k := 12) (by decide) (sem_law_same 11)
  have d5_12 : DFn l.prog w K mg base "_law_same" 14 (S_law_same 12) := der_law_same A5 T d5_11 (k := 13) (by decide) (sem_law_same 12)
  have d5_13 : DFn l.prog w K mg base "_law_same" 15 (S_law_same 13) := der_law_same A5 T d5_12 (k := 14) (by decide) (sem_law_same 13)
  have d5_14 : DFn l.prog w K mg base "_law_same" 16 (S_law_same 14) := der_law_same A5 T d5_13 (k := 15) (by decide) (sem_law_same 14)
  have d5_15 : DFn l.prog w K mg base "_law_same" 17 (S_law_same 15) := der_law_same A5 T d5_14 (k := 16) (by decide) (sem_law_same 15)
  have d5_16 : DFn l.prog w K mg base "_law_same" 18 (S_law_same 16) := der_law_same A5 T d5_15 (k := 17) (by decide) (sem_law_same 16)
  have d5_17 : DFn l.prog w K mg base "_law_same" 19 (S_law_same 17) := der_law_same A5 T d5_16 (k := 18) (by decide) (sem_law_same 17)
  have d5_18 : DFn l.prog w K mg base "_law_same" 20 (S_law_same 18) := der_law_same A5 T d5_17 (k := 19) (by decide) (sem_law_same 18)
  have d5_19 : DFn l.prog w K mg base "_law_same" 21 (S_law_same 19) := der_law_same A5 T d5_18 (k := 20) (by decide) (sem_law_same 19)
  have d5_20 : DFn l.prog w K mg base "_law_same" 22 (S_law_same 20) := der_law_same A5 T d5_19 (k := 21) (by decide) (sem_law_same 20)
  have d5_21 : DFn l.prog w K mg base "_law_same" 23 (S_law_same 21) := der_law_same A5 T d5_20 (k := 22) (by decide) (sem_law_same 21)
  have d5_22 : DFn l.prog w K mg base "_law_same" 24 (S_law_same 22) := der_law_same A5 T d5_21 (k := 23) (by decide) (sem_law_same 22)
  have d5_23 : DFn l.prog w K mg base "_law_same" 25 (S_law_same 23) := der_law_same A5 T d5_22 (k := 24) (by decide) (sem_law_same 23)
  have d5_24 : DFn l.prog w K mg base "_law_same" 26 (S_law_same 24) := der_law_same A5 T d5_23 (k := 25) (by decide) (sem_law_same 24)
  have d5_25 : DFn l.prog w K mg base "_law_same" 27 (S_law_same 25) := der_law_same A5 T d5_24 (k := 26) (by decide) (sem_law_same 25)
  have d5_26 : DFn l.prog w K mg base "_law_same" 28 (S_law_same 26) := der_law_same A5 T d5_25 (k := 27) (by decide) (sem_law_same 26)
  have d5_27 : DFn l.prog w K mg base "_law_same" 29 (S_law_same 27) := der_law_same A5 T d5_26 (k := 28) (by decide) (sem_law_same 27)
  have d5_28 : DFn l.prog w K mg base "_law_same" 30 (S_law_same 28) := der_law_same A5 T d5_27 (k := 29) (by decide) (sem_law_same 28)
  have d5_29 : DFn l.prog w K mg base "_law_same" 31 (S_law_same 29) := der_law_same A5 T d5_28 (k := 30) (by decide) (sem_law_same 29)
  have d5_30 : DFn l.prog w K mg base "_law_same" 32 (S_law_same 30) := der_law_same A5 T d5_29 (k := 31) (by decide) (sem_law_same 30)
  have d5_31 : DFn l.prog w K mg base "_law_same" 33 (S_law_same 31) := der_law_same A5 T d5_30 (k := 32) (by decide) (sem_law_same 31)
  have d5_32 : DFn l.prog w K mg base "_law_same" 34 (S_law_same 32) := der_law_same A5 T d5_31 (k := 33) (by decide) (sem_law_same 32)
  have d5_33 : DFn l.prog w K mg base "_law_same" 35 (S_law_same 33) := der_law_same A5 T d5_32 (k := 34) (by decide) (sem_law_same 33)
  have d5_34 : DFn l.prog w K mg base "_law_same" 36 (S_law_same 34) := der_law_same A5 T d5_33 (k := 35) (by decide) (sem_law_same 34)
  have d5_35 : DFn l.prog w K mg base "_law_same" 37 (S_law_same 35) := der_law_same A5 T d5_34 (k := 36) (by decide) (sem_law_same 35)
  have d5_36 : DFn l.prog w K mg base "_law_same" 38 (S_law_same 36) := der_law_same A5 T d5_35 (k := 37) (by decide) (sem_law_same 36)
  have d5_37 : DFn l.prog w K mg base "_law_same" 39 (S_law_same 37) := der_law_same A5 T d5_36 (k := 38) (by decide) (sem_law_same 37)
  have d5_38 : DFn l.prog w K mg base "_law_same" 40 (S_law_same 38) := der_law_same A5 T d5_37 (k := 39) (by decide) (sem_law_same 38)
  have d5_39 : DFn l.prog w K mg base "_law_same" 41 (S_law_same 39) := der_law_same A5 T d5_38 (k := 40) (by decide) (sem_law_same 39)
  have d5_40 : DFn l.prog w K mg base "_law_same" 42 (S_law_same 40) := der_law_same A5 T d5_39 (k := 41) (by decide) (sem_law_same 40)
  have d5_41 : DFn l.prog w K mg base "_law_same" 43 (S_law_same 41) := der_law_same A5 T d5_40 (k := 42) (by decide) (sem_law_same 41)
  have d5 := d5_41
  have d6_p : DFn l.prog w K mg base "show_plain" 1 (S_show_plainP 0) := dfn_no A6 sc_show_plain (by decide)
  have d6_0 : DFn l.prog w K mg base "show_plain" 2 (S_show_plain 0) := der_show_plain A6 T d6_p (k := 1) (by decide) (sem_show_plain 0)
  have d6_1 : DFn l.prog w K mg base "show_plain" 3 (S_show_plain 1) := der_show_plain A6 T d6_0 (k := 2) (by decide) (sem_show_plain 1)
  have d6_2 : DFn l.prog w K mg base "show_plain" 4 (S_show_plain 2) := der_show_plain A6 T d6_1 (k := 3) (by decide) (sem_show_plain 2)
  have d6_3 : DFn l.prog w K mg base "show_plain" 5 (S_show_plain 3) := der_show_plain A6 T d6_2 (k := 4) (by decide) (sem_show_plain 3)
  have d6_4 : DFn l.prog w K mg base "show_plain" 6 (S_show_plain 4) := der_show_plain A6 T d6_3 (k := 5) (by decide) (sem_show_plain 4)
  have d6_5 : DFn l.prog w K mg base "show_plain" 7 (S_show_plain 5) := der_show_plain A6 T d6_4 (k := 6) (by decide) (sem_show_plain 5)
  have d6_6 : DFn l.prog w K mg base "show_plain" 8 (S_show_plain 6) := der_show_plain A6 T d6_5 (k := 7) (by decide) (sem_show_plain 6)
  have d6_7 : DFn l.prog w K mg base "show_plain" 9 (S_show_plain 7) := der_show_plain A6 T d6_6 (k := 8) (by decide) (sem_show_plain 7)
  have d6_8 : DFn l.prog w K mg base "show_plain" 10 (S_show_plain 8) := der_show_plain A6 T d6_7 (k := 9) (by decide) (sem_show_plain 8)
  have d6_9 : DFn l.prog w K mg base "show_plain" 11 (S_show_plain 9) := der_show_plain A6 T d6_8 (k := 10) (by decide) (sem_show_plain 9)
  have d6_10 : DFn l.prog w K mg base "show_plain" 12 (S_show_plain 10) := der_show_plain A6 T d6_9 (k := 11) (by decide) (sem_show_plain 10)
  have d6_11 : DFn l.prog w K mg base "show_plain" 13 (S_show_plain 11) := der_show_plain A6 T d6_10 (k := 12) (by decide) (sem_show_plain 11)
  have d6_12 : DFn l.prog w K mg base "show_plain" 14 (S_show_plain 12) := der_show_plain A6 T d6_11 (k := 13) (by decide) (sem_show_plain 12)
  have d6_13 : DFn l.prog w K mg base "show_plain" 15 (S_show_plain 13) := der_show_plain A6 T d6_12 (k := 14) (by decide) (sem_show_plain 13)
  have d6_14 : DFn l.prog w K mg base "show_plain" 16 (S_show_plain 14) := der_show_plain A6 T d6_13 (k := 15) (by decide) (sem_show_plain 14)
  have d6_15 : DFn l.prog w K mg base "show_plain" 17 (S_show_plain 15) := der_show_plain A6 T d6_14 (k := 16) (by decide) (sem_show_plain 15)
  have d6_16 : DFn l.prog w K mg base "show_plain" 18 (S_show_plain 16) := der_show_plain A6 T d6_15 (k := 17) (by decide) (sem_show_plain 16)
  have d6_17 : DFn l.prog w K mg base "show_plain" 19 (S_show_plain 17) := der_show_plain A6 T d6_16 (k := 18) (by decide) (sem_show_plain 17)
  have d6_18 : DFn l.prog w K mg base "show_plain" 20 (S_show_plain 18) := der_show_plain A6 T d6_17 (k := 19) (by decide) (sem_show_plain 18)
  have d6_19 : DFn l.prog w K mg base "show_plain" 21 (S_show_plain 19) := der_show_plain A6 T d6_18 (k := 20) (by decide) (sem_show_plain 19)
  have d6_20 : DFn l.prog w K mg base "show_plain" 22 (S_show_plain 20) := der_show_plain A6 T d6_19 (k := 21) (by decide) (sem_show_plain 20)
  have d6_21 : DFn l.prog w K mg base "show_plain" 23 (S_show_plain 21) := der_show_plain A6 T d6_20 (k := 22) (by decide) (sem_show_plain 21)
  have d6_22 : DFn l.prog w K mg base "show_plain" 24 (S_show_plain 22) := der_show_plain A6 T d6_21 (k := 23) (by decide) (sem_show_plain 22)
  have d6_23 : DFn l.prog w K mg base "show_plain" 25 (S_show_plain 23) := der_show_plain A6 T d6_22 (k := 24) (by decide) (sem_show_plain 23)
  have d6_24 : DFn l.prog w K mg base "show_plain" 26 (S_show_plain 24) := der_show_plain A6 T d6_23 (k := 25) (by decide) (sem_show_plain 24)
  have d6_25 : DFn l.prog w K mg base "show_plain" 27 (S_show_plain 25) := der_show_plain A6 T d6_24 (k := 26) (by decide) (sem_show_plain 25)
  have d6_26 : DFn l.prog w K mg base "show_plain" 28 (S_show_plain 26) := der_show_plain A6 T d6_25 (k := 27) (by decide) (sem_show_plain 26)
  have d6_27 : DFn l.prog w K mg base "show_plain" 29 (S_show_plain 27) := der_show_plain A6 T d6_26 (k := 28) (by decide) (sem_show_plain 27)
  have d6_28 : DFn l.prog w K mg base "show_plain" 30 (S_show_plain 28) := der_show_plain A6 T d6_27 (k := 29) (by decide) (sem_show_plain 28)
  have d6_29 : DFn l.prog w K mg base "show_plain" 31 (S_show_plain 29) := der_show_plain A6 T d6_28 (k := 30) (by decide) (sem_show_plain 29)
  have d6_30 : DFn l.prog w K mg base "show_plain" 32 (S_show_plain 30) := der_show_plain A6 T d6_29 (k := 31) (by decide) (sem_show_plain 30)
  have d6_31 : DFn l.prog w K mg base "show_plain" 33 (S_show_plain 31) := der_show_plain A6 T d6_30 (k := 32) (by decide) (sem_show_plain 31)
  have d6_32 : DFn l.prog w K mg base "show_plain" 34 (S_show_plain 32) := der_show_plain A6 T d6_31 (k := 33) (by decide) (sem_show_plain 32)
  have d6_33 : DFn l.prog w K mg base "show_plain" 35 (S_show_plain 33) := der_show_plain A6 T d6_32 (k := 34) (by decide) (sem_show_plain 33)
  have d6_34 : DFn l.prog w K mg base "show_plain" 36 (S_show_plain 34) := der_show_plain A6 T d6_33 (k := 35) (by decide) (sem_show_plain 34)
  have d6_35 : DFn l.prog w K mg base "show_plain" 37 (S_show_plain 35) := der_show_plain A6 T d6_34 (k := 36) (by decide) (sem_show_plain 35)
  have d6_36 : DFn l.prog w K mg base "show_plain" 38 (S_show_plain 36) := der_show_plain A6 T d6_35 (k := 37) (by decide) (sem_show_plain 36)
  have d6_37 : DFn l.prog w K mg base "show_plain" 39 (S_show_plain 37) := der_show_plain A6 T d6_36 (k := 38) (by decide) (sem_show_plain 37)
  have d6_38 : DFn l.prog w K mg base "show_plain" 40 (S_show_plain 38) := der_show_plain A6 T d6_37 (k := 39) (by decide) (sem_show_plain 38)
  have d6_39 : DFn l.prog w K mg base "show_plain" 41 (S_show_plain 39) := der_show_plain A6 T d6_38 (k := 40) (by decide) (sem_show_plain 39)
  have d6_40 : DFn l.prog w K mg base "show_plain" 42 (S_show_plain 40) := der_show_plain A6 T d6_39 (k := 41) (by decide) (sem_show_plain 40)
  have d6_41 : DFn l.prog w K mg base "show_plain" 43 (S_show_plain 41) := der_show_plain A6 T d6_40 (k := 42) (by decide) (sem_show_plain 41)
  have d6 := d6_41
  have d7 : DFn l.prog w K mg base "_read_string" 1 S_read_string := der_read_string A7 T  (k := 0)  sem_read_string
  have d8 : DFn l.prog w K mg base "_read_integer" 1 S_read_integer := der_read_integer A8 T  (k := 0)  sem_read_integer
  have d9_p : DFn l.prog w K mg base "_read_tuple" 1 (S_read_tupleP 0) := dfn_no A9 sc_read_tuple (by decide)
  have d10_0 : DFn l.prog w K mg base "_read_value" 2 (S_read_value 0) := der_read_value A10 T d7 d9_p d8 (k := 1) (by decide) (by decide) (by decide) (sem_read_value 0)
  have d9_0 : DFn l.prog w K mg base "_read_tuple" 3 (S_read_tuple 0) := der_read_tuple A9 T d10_0 (k := 2) (by decide) (sem_read_tuple 0)
  have d10_1 : DFn l.prog w K mg base "_read_value" 4 (S_read_value 1) := der_read_value A10 T d7 d9_0 d8 (k := 3) (by decide) (by decide) (by decide) (sem_read_value 1)
  have d9_1 : DFn l.prog w K mg base "_read_tuple" 5 (S_read_tuple 1) := der_read_tuple A9 T d10_1 (k := 4) (by decide) (sem_read_tuple 1)
  have d10_2 : DFn l.prog w K mg base "_read_value" 6 (S_read_value 2) := der_read_value A10 T d7 d9_1 d8 (k := 5) (by decide) (by decide) (by decide) (sem_read_value 2)
  have d9_2 : DFn l.prog w K mg base "_read_tuple" 7 (S_read_tuple 2) := der_read_tuple A9 T d10_2 (k := 6) (by decide) (sem_read_tuple 2)
  have d10_3 : DFn l.prog w K mg base "_read_value" 8 (S_read_value 3) := der_read_value A10 T d7 d9_2 d8 (k := 7) (by decide) (by decide) (by decide) (sem_read_value 3)
  have d9_3 : DFn l.prog w K mg base "_read_tuple" 9 (S_read_tuple 3) := der_read_tuple A9 T d10_3 (k := 8) (by decide) (sem_read_tuple 3)
  have d10_4 : DFn l.prog w K mg base "_read_value" 10 (S_read_value 4) := der_read_value A10 T d7 d9_3 d8 (k := 9) (by decide) (by decide) (by decide) (sem_read_value 4)
  have d9_4 : DFn l.prog w K mg base "_read_tuple" 11 (S_read_tuple 4) := der_read_tuple A9 T d10_4 (k := 10) (by decide) (sem_read_tuple 4)
  have d10_5 : DFn l.prog w K mg base "_read_value" 12 (S_read_value 5) := der_read_value A10 T d7 d9_4 d8 (k := 11) (by decide) (by decide) (by decide) (sem_read_value 5)
  have d9_5 : DFn l.prog w K mg base "_read_tuple" 13 (S_read_tuple 5) := der_read_tuple A9 T d10_5 (k := 12) (by decide) (sem_read_tuple 5)
  have d10_6 : DFn l.prog w K mg base "_read_value" 14 (S_read_value 6) := der_read_value A10 T d7 d9_5 d8 (k := 13) (by decide) (by decide) (by decide) (sem_read_value 6)
  have d9_6 : DFn l.prog w K mg base "_read_tuple" 15 (S_read_tuple 6) := der_read_tuple A9 T d10_6 (k := 14) (by decide) (sem_read_tuple 6)
  have d10_7 : DFn l.prog w K mg base "_read_value" 16 (S_read_value 7) := der_read_value A10 T d7 d9_6 d8 (k := 15) (by decide) (by decide) (by decide) (sem_read_value 7)
  have d9_7 : DFn l.prog w K mg base "_read_tuple" 17 (S_read_tuple 7) := der_read_tuple A9 T d10_7 (k := 16) (by decide) (sem_read_tuple 7)
  have d10_8 : DFn l.prog w K mg base "_read_value" 18 (S_read_value 8) := der_read_value A10 T d7 d9_7 d8 (k := 17) (by decide) (by decide) (by decide) (sem_read_value 8)
  have d9_8 : DFn l.prog w K mg base "_read_tuple" 19 (S_read_tuple 8) := der_read_tuple A9 T d10_8 (k := 18) (by decide) (sem_read_tuple 8)
  have d10_9 : DFn l.prog w K mg base "_read_value" 20 (S_read_value 9) := der_read_value A10 T d7 d9_8 d8 (k := 19) (by decide) (by decide) (by decide) (sem_read_value 9)
  have d9_9 : DFn l.prog w K mg base "_read_tuple" 21 (S_read_tuple 9) := der_read_tuple A9 T d10_9 (k := 20) (by decide) (sem_read_tuple 9)
  have d10_10 : DFn l.prog w K mg base "_read_value" 22 (S_read_value 10) := der_read_value A10 T d7 d9_9 d8 (k := 21) (by decide) (by decide) (by decide) (sem_read_value 10)
  have d9_10 : DFn l.prog w K mg base "_read_tuple" 23 (S_read_tuple 10) := der_read_tuple A9 T d10_10 (k := 22) (by decide) (sem_read_tuple 10)
  have d10_11 : DFn l.prog w K mg base "_read_value" 24 (S_read_value 11) := der_read_value A10 T d7 d9_10 d8 (k := 23) (by decide) (by decide) (by decide) (sem_read_value 11)
  have d9_11 : DFn l.prog w K mg base "_read_tuple" 25 (S_read_tuple 11) := der_read_tuple A9 T d10_11 (k := 24) (by decide) (sem_read_tuple 11)
  have d10_12 : DFn l.prog w K mg base "_read_value" 26 (S_read_value 12) := der_read_value A10 T d7 d9_11 d8 (k := 25) (by decide) (by decide) (by decide) (sem_read_value 12)
  have d9_12 : DFn l.prog w K mg base "_read_tuple" 27 (S_read_tuple 12) := der_read_tuple A9 T d10_12 (k := 26) (by decide) (sem_read_tuple 12)
  have d10_13 : DFn l.prog w K mg base "_read_value" 28 (S_read_value 13) := der_read_value A10 T d7 d9_12 d8 (k := 27) (by decide) (by decide) (by decide) (sem_read_value 13)
  have d9_13 : DFn l.prog w K mg base "_read_tuple" 29 (S_read_tuple 13) := der_read_tuple A9 T d10_13 (k := 28) (by decide) (sem_read_tuple 13)
  have d10_14 : DFn l.prog w K mg base "_read_value" 30 (S_read_value 14) := der_read_value A10 T d7 d9_13 d8 (k := 29) (by decide) (by decide) (by decide) (sem_read_value 14)
  have d9_14 : DFn l.prog w K mg base "_read_tuple" 31 (S_read_tuple 14) := der_read_tuple A9 T d10_14 (k := 30) (by decide) (sem_read_tuple 14)
  have d10_15 : DFn l.prog w K mg base "_read_value" 32 (S_read_value 15) := der_read_value A10 T d7 d9_14 d8 (k := 31) (by decide) (by decide) (by decide) (sem_read_value 15)
  have d9_15 : DFn l.prog w K mg base "_read_tuple" 33 (S_read_tuple 15) := der_read_tuple A9 T d10_15 (k := 32) (by decide) (sem_read_tuple 15)
  have d10_16 : DFn l.prog w K mg base "_read_value" 34 (S_read_value 16) := der_read_value A10 T d7 d9_15 d8 (k := 33) (by decide) (by decide) (by decide) (sem_read_value 16)
  have d9_16 : DFn l.prog w K mg base "_read_tuple" 35 (S_read_tuple 16) := der_read_tuple A9 T d10_16 (k := 34) (by decide) (sem_read_tuple 16)
  have d10_17 : DFn l.prog w K mg base "_read_value" 36 (S_read_value 17) := der_read_value A10 T d7 d9_16 d8 (k := 35) (by decide) (by decide) (by decide) (sem_read_value 17)
  have d9_17 : DFn l.prog w K mg base "_read_tuple" 37 (S_read_tuple 17) := der_read_tuple A9 T d10_17 (k := 36) (by decide) (sem_read_tuple 17)
  have d10_18 : DFn l.prog w K mg base "_read_value" 38 (S_read_value 18) := der_read_value A10 T d7 d9_17 d8 (k := 37) (by decide) (by decide) (by decide) (sem_read_value 18)
  have d9_18 : DFn l.prog w K mg base "_read_tuple" 39 (S_read_tuple 18) := der_read_tuple A9 T d10_18 (k := 38) (by decide) (sem_read_tuple 18)
  have d10_19 : DFn l.prog w K mg base "_read_value" 40 (S_read_value 19) := der_read_value A10 T d7 d9_18 d8 (k := 39) (by decide) (by decide) (by decide) (sem_read_value 19)
  have d9_19 : DFn l.prog w K mg base "_read_tuple" 41 (S_read_tuple 19) := der_read_tuple A9 T d10_19 (k := 40) (by decide) (sem_read_tuple 19)
  have d10_20 : DFn l.prog w K mg base "_read_value" 42 (S_read_value 20) := der_read_value A10 T d7 d9_19 d8 (k := 41) (by decide) (by decide) (by decide) (sem_read_value 20)
  have d9_20 : DFn l.prog w K mg base "_read_tuple" 43 (S_read_tuple 20) := der_read_tuple A9 T d10_20 (k := 42) (by decide) (sem_read_tuple 20)
  have d10_21 : DFn l.prog w K mg base "_read_value" 44 (S_read_value 21) := der_read_value A10 T d7 d9_20 d8 (k := 43) (by decide) (by decide) (by decide) (sem_read_value 21)
  have d9_21 : DFn l.prog w K mg base "_read_tuple" 45 (S_read_tuple 21) := der_read_tuple A9 T d10_21 (k := 44) (by decide) (sem_read_tuple 21)
  have d10_22 : DFn l.prog w K mg base "_read_value" 46 (S_read_value 22) := der_read_value A10 T d7 d9_21 d8 (k := 45) (by decide) (by decide) (by decide) (sem_read_value 22)
  have d9_22 : DFn l.prog w K mg base "_read_tuple" 47 (S_read_tuple 22) := der_read_tuple A9 T d10_22 (k := 46) (by decide) (sem_read_tuple 22)
  have d10_23 : DFn l.prog w K mg base "_read_value" 48 (S_read_value 23) := der_read_value A10 T d7 d9_22 d8 (k := 47) (by decide) (by decide) (by decide) (sem_read_value 23)
  have d9_23 : DFn l.prog w K mg base "_read_tuple" 49 (S_read_tuple 23) := der_read_tuple A9 T d10_23 (k := 48) (by decide) (sem_read_tuple 23)
  have d10_24 : DFn l.prog w K mg base "_read_value" 50 (S_read_value 24) := der_read_value A10 T d7 d9_23 d8 (k := 49) (by decide) (by decide) (by decide) (sem_read_value 24)
  have d9_24 : DFn l.prog w K mg base "_read_tuple" 51 (S_read_tuple 24) := der_read_tuple A9 T d10_24 (k := 50) (by decide) (sem_read_tuple 24)
  have d10_25 : DFn l.prog w K mg base "_read_value" 52 (S_read_value 25) := der_read_value A10 T d7 d9_24 d8 (k := 51) (by decide) (by decide) (by decide) (sem_read_value 25)
  have d9_25 : DFn l.prog w K mg base "_read_tuple" 53 (S_read_tuple 25) := der_read_tuple A9 T d10_25 (k := 52) (by decide) (sem_read_tuple 25)
  have d10_26 : DFn l.prog w K mg base "_read_value" 54 (S_read_value 26) := der_read_value A10 T d7 d9_25 d8 (k := 53) (by decide) (by decide) (by decide) (sem_read_value 26)
  have d9_26 : DFn l.prog w K mg base "_read_tuple" 55 (S_read_tuple 26) := der_read_tuple A9 T d10_26 (k := 54) (by decide) (sem_read_tuple 26)
  have d10_27 : DFn l.prog w K mg base "_read_value" 56 (S_read_value 27) := der_read_value A10 T d7 d9_26 d8 (k := 55) (by decide) (by decide) (by decide) (sem_read_value 27)
  have d9_27 : DFn l.prog w K mg base "_read_tuple" 57 (S_read_tuple 27) := der_read_tuple A9 T d10_27 (k := 56) (by decide) (sem_read_tuple 27)
  have d10_28 : DFn l.prog w K mg base "_read_value" 58 (S_read_value 28) := der_read_value A10 T d7 d9_27 d8 (k := 57) (by decide) (by decide) (by decide) (sem_read_value 28)
  have d9_28 : DFn l.prog w K mg base "_read_tuple" 59 (S_read_tuple 28) := der_read_tuple A9 T d10_28 (k := 58) (by decide) (sem_read_tuple 28)
  have d10_29 : DFn l.prog w K mg base "_read_value" 60 (S_read_value 29) := der_read_value A10 T d7 d9_28 d8 (k := 59) (by decide) (by decide) (by decide) (sem_read_value 29)
  have d9_29 : DFn l.prog w K mg base "_read_tuple" 61 (S_read_tuple 29) := der_read_tuple A9 T d10_29 (k := 60) (by decide) (sem_read_tuple 29)
  have d10_30 : DFn l.prog w K mg base "_read_value" 62 (S_read_value 30) := der_read_value A10 T d7 d9_29 d8 (k := 61) (by decide) (by decide) (by decide) (sem_read_value 30)
  have d9_30 : DFn l.prog w K mg base "_read_tuple" 63 (S_read_tuple 30) := der_read_tuple A9 T d10_30 (k := 62) (by decide) (sem_read_tuple 30)
  have d10_31 : DFn l.prog w K mg base "_read_value" 64 (S_read_value 31) := der_read_value A10 T d7 d9_30 d8 (k := 63) (by decide) (by decide) (by decide) (sem_read_value 31)
  have d9_31 : DFn l.prog w K mg base "_read_tuple" 65 (S_read_tuple 31) := der_read_tuple A9 T d10_31 (k := 64) (by decide) (sem_read_tuple 31)
  have d10_32 : DFn l.prog w K mg base "_read_value" 66 (S_read_value 32) := der_read_value A10 T d7 d9_31 d8 (k := 65) (by decide) (by decide) (by decide) (sem_read_value 32)
  have d9_32 : DFn l.prog w K mg base "_read_tuple" 67 (S_read_tuple 32) := der_read_tuple A9 T d10_32 (k := 66) (by decide) (sem_read_tuple 32)
  have d10_33 : DFn l.prog w K mg base "_read_value" 68 (S_read_value 33) := der_read_value A10 T d7 d9_32 d8 (k := 67) (by decide) (by decide) (by decide) (sem_read_value 33)
  have d9_33 : DFn l.prog w K mg base "_read_tuple" 69 (S_read_tuple 33) := der_read_tuple A9 T d10_33 (k := 68) (by decide) (sem_read_tuple 33)
  have d10_34 : DFn l.prog w K mg base "_read_value" 70 (S_read_value 34) := der_read_value A10 T d7 d9_33 d8 (k := 69) (by decide) (by decide) (by decide) (sem_read_value 34)
  have d9_34 : DFn l.prog w K mg base "_read_tuple" 71 (S_read_tuple 34) := der_read_tuple A9 T d10_34 (k := 70) (by decide) (sem_read_tuple 34)
  have d10_35 : DFn l.prog w K mg base "_read_value" 72 (S_read_value 35) := der_read_value A10 T d7 d9_34 d8 (k := 71) (by decide) (by decide) (by decide) (sem_read_value 35)
  have d9_35 : DFn l.prog w K mg base "_read_tuple" 73 (S_read_tuple 35) := der_read_tuple A9 T d10_35 (k := 72) (by decide) (sem_read_tuple 35)
  have d10_36 : DFn l.prog w K mg base "_read_value" 74 (S_read_value 36) := der_read_value A10 T d7 d9_35 d8 (k := 73) (by decide) (by decide) (by decide) (sem_read_value 36)
  have d9_36 : DFn l.prog w K mg base "_read_tuple" 75 (S_read_tuple 36) := der_read_tuple A9 T d10_36 (k := 74) (by decide) (sem_read_tuple 36)
  have d10_37 : DFn l.prog w K mg base "_read_value" 76 (S_read_value 37) := der_read_value A10 T d7 d9_36 d8 (k := 75) (by decide) (by decide) (by decide) (sem_read_value 37)
  have d9_37 : DFn l.prog w K mg base "_read_tuple" 77 (S_read_tuple 37) := der_read_tuple A9 T d10_37 (k := 76) (by decide) (sem_read_tuple 37)
  have d10_38 : DFn l.prog w K mg base "_read_value" 78 (S_read_value 38) := der_read_value A10 T d7 d9_37 d8 (k := 77) (by decide) (by decide) (by decide) (sem_read_value 38)
  have d9_38 : DFn l.prog w K mg base "_read_tuple" 79 (S_read_tuple 38) := der_read_tuple A9 T d10_38 (k := 78) (by decide) (sem_read_tuple 38)
  have d10_39 : DFn l.prog w K mg base "_read_value" 80 (S_read_value 39) := der_read_value A10 T d7 d9_38 d8 (k := 79) (by decide) (by decide) (by decide) (sem_read_value 39)
  have d9_39 : DFn l.prog w K mg base "_read_tuple" 81 (S_read_tuple 39) := der_read_tuple A9 T d10_39 (k := 80) (by decide) (sem_read_tuple 39)
  have d10_40 : DFn l.prog w K mg base "_read_value" 82 (S_read_value 40) := der_read_value A10 T d7 d9_39 d8 (k := 81) (by decide) (by decide) (by decide) (sem_read_value 40)
  have d9_40 : DFn l.prog w K mg base "_read_tuple" 83 (S_read_tuple 40) := der_read_tuple A9 T d10_40 (k := 82) (by decide) (sem_read_tuple 40)
  have d10_41 : DFn l.prog w K mg base "_read_value" 84 (S_read_value 41) := der_read_value A10 T d7 d9_40 d8 (k := 83) (by decide) (by decide) (by decide) (sem_read_value 41)
  have d10 := d10_41
  have d11 : DFn l.prog w K mg base "read_plain" 85 S_read_plain := der_read_plain A11 T d10 (k := 84) (by decide) sem_read_plain
  exact der_law A12 T d1 d3 d2 d4 d5 d6 d11 (k := 85) (by decide) (by decide) (by decide) (by decide) (by decide) (by decide) (by decide) (law_sem law_run)
end Lk27
open PySem PySem.W PyProof.Rows
set_option maxHeartbeats 0 in
theorem PySem.Challenge.cw_truewheel_k27_plain_there_and_back_holds : PySem.Challenge.rw_truewheel_k27_plain_there_and_back.Holds := by
  w_on; o_law; k_head; (case hw => w_witness2)
  k_fill
  refine L2.walk_ofK (l := PySem.Challenge.rw_truewheel_k27_plain_there_and_back) (n := 63) (k := 86) (x := "script") (CX := L2.CX0) (sp := fun K => DL.spD K (DL.lawS 63)) rfl (by decide) rfl ⟨rfl, by decide, by decide⟩ (fun w h Y => PySem.W.kIn_of Y) ?F (fun K H a ns hl _ hS => DL.law_sp K H a ns hl hS) (fun _ _ _ _ h => h)
  case F =>
    intro w mg fa h KX G hmg
    refine' Lk27.all_mk KX G hmg ?a0 ?l0 ?c0 ?k0 ?a1 ?l1 ?c1 ?k1 ?a2 ?l2 ?c2 ?k2 ?a3 ?l3 ?c3 ?k3 ?a4 ?l4 ?c4 ?k4 ?a5 ?l5 ?c5 ?k5 ?a6 ?l6 ?c6 ?k6 ?a7 ?l7 ?c7 ?k7 ?a8 ?l8 ?c8 ?k8 ?a9 ?l9 ?c9 ?k9 ?a10 ?l10 ?c10 ?k10 ?a11 ?l11 ?c11 ?k11 ?a12 ?l12 ?c12 ?k12 ?z0 ?z1 ?z2 ?z2d ?z2l ?z2s ?z2k0 ?z2k1 ?z2k2 ?z3 ?z4 ?z4d ?z4l ?z4s ?z4k0 ?z4k1 ?z4k2 ?z4m0 ?z4m1 ?z4m2 ?z4m3 ?z4m4 ?z4m5 ?z4m6 ?z4m7 ?z4m8 ?z4m9 ?z4m10 ?z4m11 ?z4m12 ?z5 ?z6 ?z7 ?z8 ?z9 ?z10 ?z11
    (case a0 => k_is); (case l0 => k_is); (case c0 => k_is); (case k0 => k_is); (case a1 => k_is); (case l1 => k_is); (case c1 => k_is); (case k1 => k_is); (case a2 => k_is); (case l2 => k_is); (case c2 => k_is); (case k2 => k_is); (case a3 => k_is); (case l3 => k_is); (case c3 => k_is); (case k3 => k_is); (case a4 => k_is); (case l4 => k_is); (case c4 => k_is); (case k4 => k_is); (case a5 => k_is); (case l5 => k_is); (case c5 => k_is); (case k5 => k_is); (case a6 => k_is); (case l6 => k_is); (case c6 => k_is); (case k6 => k_is); (case a7 => k_is); (case l7 => k_is); (case c7 => k_is); (case k7 => k_is); (case a8 => k_is); (case l8 => k_is); (case c8 => k_is); (case k8 => k_is); (case a9 => k_is); (case l9 => k_is); (case c9 => k_is); (case k9 => k_is); (case a10 => k_is); (case l10 => k_is); (case c10 => k_is); (case k10 => k_is); (case a11 => k_is); (case l11 => k_is); (case c11 => k_is); (case k11 => k_is); (case a12 => k_is); (case l12 => k_is); (case c12 => k_is); (case k12 => k_is); (case z0 => k_is); (case z1 => k_is); (case z2 => k_is); (case z2d => k_is); (case z2l => exact ⟨⟨_, _, rfl, rfl⟩, ⟨_, _, rfl, rfl⟩, ⟨_, _, rfl, rfl⟩, trivial⟩); (case z2s => rfl); (case z2k0 => k_is); (case z2k1 => k_is); (case z2k2 => k_is); (case z3 => k_is); (case z4 => k_is); (case z4d => k_is); (case z4l => exact ⟨⟨_, _, rfl, rfl⟩, ⟨_, _, rfl, rfl⟩, ⟨_, _, rfl, rfl⟩, trivial⟩); (case z4s => rfl); (case z4k0 => k_is); (case z4k1 => k_is); (case z4k2 => k_is); (case z4m0 => k_is); (case z4m1 => k_is); (case z4m2 => k_is); (case z4m3 => k_is); (case z4m4 => k_is); (case z4m5 => k_is); (case z4m6 => k_is); (case z4m7 => k_is); (case z4m8 => k_is); (case z4m9 => k_is); (case z4m10 => k_is); (case z4m11 => k_is); (case z4m12 => k_is); (case z5 => k_is); (case z6 => k_is); (case z7 => k_is); (case z8 => k_is); (case z9 => k_is); (case z10 => k_is); (case z11 => k_is)

