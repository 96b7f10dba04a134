import PyProof.Rows.All
import Wide.All
import OpenK.AllK
import Wide.FinOn
import HandS.ForMost
import HandS.Evl
import HandS.IsInst
import HandS.TupAny
import HandS.TupLe
import HandS.Flow
import HandS.Style
import HandS.Wide
import HandS.WideMore
import HandS.Gcd
import HandS.TupLen
import KE.KMathGC
import HandS.Rev
import HandS.Zip
import HandS.Codes
import KE.KTupSum
import HandS.NoneIn
import HandS.TupMul
import HandS.StrMore
import HandS.Strs
import HandS.SetFor
import HandS.SortInts
import HandS.SortOrd
import HandS.DictTup
import PySem.Challenge.RW_truewheel_k23_words_drift
set_option Elab.async false
set_option linter.all false
set_option maxRecDepth 100000
set_option maxHeartbeats 4000000
/-! DL: a data layer over HandS. An expression refines a data-level meaning, a statement a data-level step. -/
namespace DL
open PySem L2

/-! ### data, cells, results -/
inductive D where
  | none | bool (b : Bool) | int (i : Int) | str (s : Str) | list (xs : List D) | tuple (xs : List D) | dict (t : Bool) (ks vs : List D) | ro (xs : List D)

/-- what a local variable holds: frozen data, or a list or a dict of its own (p: handed in to be changed) -/
inductive Ce where
  | f (d : D) | l (p : Bool) (ds : List D) | k (p t : Bool) (ks vs : List D)
def Ce.ow : Ce → Bool
  | .f _ => false | .l _ _ => true | .k _ _ _ _ => true
def Ce.io : Ce → Bool
  | .f _ => false | .l p _ => p | .k p _ _ _ => p
def Ce.d : Ce → D
  | .f d => d | .l _ ds => .list ds | .k _ t ks vs => .dict t ks vs
def Ce.mem : Ce → List D
  | .f _ => [] | .l _ ds => ds | .k _ _ _ vs => vs
/-- the sort of a cell -/
def Ce.kd : Ce → Nat
  | .f _ => 0 | .l false _ => 1 | .l true _ => 2 | .k false false _ _ => 3 | .k true false _ _ => 4 | .k false true _ _ => 5 | .k true true _ _ => 6
/-- the cell as a callee sees it -/
def Ce.lent : Ce → Ce
  | .f d => .f d | .l _ ds => .l true ds | .k _ t ks vs => .k true t ks vs
/-- what a callee left, with the mark of the caller's cell -/
def Ce.back : Ce → Ce → Ce
  | .l p _, .l _ ds => .l p ds | .k p _ _ _, .k _ t ks vs => .k p t ks vs | c, _ => c

inductive Rs (α : Type) where
  | ok (a : α) | ex (n : String) (ds : List D) | no
def Rs.bind {α β : Type} : Rs α → (α → Rs β) → Rs β
  | .ok a, f => f a
  | .ex n ds, _ => .ex n ds
  | .no, _ => .no
@[simp] theorem Rs.bind_ok {α β : Type} (a : α) (f : α → Rs β) : (Rs.ok a).bind f = f a := rfl
@[simp] theorem Rs.bind_ex {α β : Type} (n : String) (ds : List D) (f : α → Rs β) : (Rs.ex n ds).bind f = .ex n ds := rfl
@[simp] theorem Rs.bind_no {α β : Type} (f : α → Rs β) : (Rs.no : Rs α).bind f = .no := rfl
theorem Rs.bind_eq {α β : Type} {r : Rs α} {f : α → Rs β} {b : β} (h : r.bind f = .ok b) : ∃ a, r = .ok a ∧ f a = .ok b := by
  cases r with
  | ok a => exact ⟨a, rfl, h⟩
  | ex n ds => cases h
  | no => cases h
abbrev En := List (Option Ce)
abbrev M (α : Type) := En → Rs (α × En)
def M.pure {α : Type} (a : α) : M α := fun e => .ok (a, e)
def M.bind {α β : Type} (m : M α) (f : α → M β) : M β := fun e => (m e).bind fun p => f p.1 p.2
@[simp] theorem M.pure_ap {α : Type} (a : α) (e : En) : M.pure a e = .ok (a, e) := rfl
@[simp] theorem M.bind_ap {α β : Type} (m : M α) (f : α → M β) (e : En) : M.bind m f e = (m e).bind fun p => f p.1 p.2 := rfl
theorem M.bind_eq {α β : Type} {m : M α} {f : α → M β} {e : En} {p : β × En} (h : M.bind m f e = .ok p) : ∃ a e1, m e = .ok (a, e1) ∧ f a e1 = .ok p := by
  obtain ⟨⟨a, e1⟩, h1, h2⟩ := Rs.bind_eq h
  exact ⟨a, e1, h1, h2⟩
def M.lift {α : Type} (r : Rs α) : M α := fun e => r.bind fun a => .ok (a, e)
@[simp] theorem M.lift_ap {α : Type} (r : Rs α) (e : En) : M.lift r e = r.bind fun a => .ok (a, e) := rfl

inductive Out where
  | nx (e : En) | rt (c : Ce) (e : En) | bk (e : En) | ct (e : En) | ex (n : String) (ds : List D) | no

/-! ### data in the heap -/
def kD : Key → D
  | .inl i => .int i
  | .inr s => .str s
/-- a dict's object, by its keys and values -/
def DcO (t : Bool) (o : HO) (ks : List D) (xs : List V) : Prop :=
  (t = false ∧ ∃ kvs : List (Key × V), o = .dK kvs ∧ kvs.map (fun p => kD p.1) = ks ∧ kvs.map (·.2) = xs) ∨
    (t = true ∧ ∃ kvs : List (List Key × V), o = .dT kvs ∧ kvs.map (fun p => D.tuple (p.1.map kD)) = ks ∧ kvs.map (·.2) = xs)
mutual
inductive Dn (K : PySem.W.Frag) (F : Hp) : V → D → Prop
  | non : Dn K F .non .none
  | bl (b : Bool) : Dn K F (.bl b) (.bool b)
  | int (i : Int) : Dn K F (.int i) (.int i)
  | str (x : Str) : Dn K F (.str x) (.str x)
  | lst {a : Addr} {xs : List V} {ds : List D} : F a = some (.lst xs) → DnA K F xs ds → Dn K F (.ref a) (.list ds)
  | ro {a : Addr} {xs : List V} {ds : List D} : SqL K F a xs → DnA K F xs ds → Dn K F (.ref a) (.ro ds)
  | tup {a : Addr} {xs : List V} {ds : List D} : F a = some (.tup xs) → DnA K F xs ds → Dn K F (.ref a) (.tuple ds)
  | dic {a : Addr} {t : Bool} {o : HO} {xs : List V} {ks vs : List D} : F a = some o → DcO t o ks xs → DnA K F xs vs → Dn K F (.ref a) (.dict t ks vs)
inductive DnA (K : PySem.W.Frag) (F : Hp) : List V → List D → Prop
  | nil : DnA K F [] []
  | cons {v : V} {vs : List V} {d : D} {ds : List D} : Dn K F v d → DnA K F vs ds → DnA K F (v :: vs) (d :: ds)
end
abbrev Ex := Evl.Ex
section
variable {K : PySem.W.Frag} {F F' H H' : Hp}
mutual
theorem Dn.mono (e : Ex F F') : ∀ {v : V} {d : D}, Dn K F v d → Dn K F' v d
  | _, _, .non => .non
  | _, _, .bl b => .bl b
  | _, _, .int i => .int i
  | _, _, .str x => .str x
  | _, _, .lst h ha => .lst (e _ _ h) (DnA.mono e ha)
  | _, _, .ro h ha => .ro (Evl.ex_l e h) (DnA.mono e ha)
  | _, _, .tup h ha => .tup (e _ _ h) (DnA.mono e ha)
  | _, _, .dic h hk ha => .dic (e _ _ h) hk (DnA.mono e ha)
theorem DnA.mono (e : Ex F F') : ∀ {vs : List V} {ds : List D}, DnA K F vs ds → DnA K F' vs ds
  | _, _, .nil => .nil
  | _, _, .cons h ha => .cons (Dn.mono e h) (DnA.mono e ha)
end
theorem DnA.len : ∀ {vs : List V} {ds : List D}, DnA K F vs ds → vs.length = ds.length
  | _, _, .nil => rfl
  | _, _, .cons _ ha => congrArg (· + 1) (DnA.len ha)
theorem DnA.get : ∀ {vs : List V} {ds : List D} {i : Nat} {d : D}, DnA K F vs ds → ds[i]? = some d → ∃ v, vs[i]? = some v ∧ Dn K F v d
  | _, _, _, _, .nil, h => by simp at h
  | _, _, 0, _, .cons h _, e => by
    simp at e
    subst e
    exact ⟨_, by simp, h⟩
  | _, _, i + 1, _, .cons _ ha, e => by
    simp at e
    obtain ⟨v, h1, h2⟩ := DnA.get ha e
    exact ⟨v, by simpa using h1, h2⟩
theorem DnA.getV : ∀ {vs : List V} {ds : List D} {i : Nat} {v : V}, DnA K F vs ds → vs[i]? = some v → ∃ d, ds[i]? = some d ∧ Dn K F v d
  | _, _, _, _, .nil, h => by simp at h
  | _, _, 0, _, .cons h _, e => by
    simp at e
    subst e
    exact ⟨_, by simp, h⟩
  | _, _, i + 1, _, .cons _ ha, e => by
    simp at e
    obtain ⟨v, h1, h2⟩ := DnA.getV ha e
    exact ⟨v, by simpa using h1, h2⟩
theorem DnA.app : ∀ {vs ws : List V} {ds es : List D}, DnA K F vs ds → DnA K F ws es → DnA K F (vs ++ ws) (ds ++ es)
  | _, _, _, _, .nil, h => h
  | _, _, _, _, .cons h ha, hb => .cons h (DnA.app ha hb)
theorem DnA.take : ∀ {vs : List V} {ds : List D} (n : Nat), DnA K F vs ds → DnA K F (vs.take n) (ds.take n)
  | _, _, 0, _ => by simpa using DnA.nil
  | _, _, n + 1, .nil => by simpa using DnA.nil
  | _, _, n + 1, .cons h ha => by simpa using DnA.cons h (DnA.take n ha)
theorem DnA.drop : ∀ {vs : List V} {ds : List D} (n : Nat), DnA K F vs ds → DnA K F (vs.drop n) (ds.drop n)
  | _, _, 0, h => by simpa using h
  | _, _, n + 1, .nil => by simpa using DnA.nil
  | _, _, n + 1, .cons h ha => by simpa using DnA.drop n ha
theorem DnA.set : ∀ {vs : List V} {ds : List D} {v : V} {d : D} (n : Nat), DnA K F vs ds → Dn K F v d → DnA K F (vs.set n v) (ds.set n d)
  | _, _, _, _, _, .nil, _ => by simpa using DnA.nil
  | _, _, _, _, 0, .cons _ ha, h => by simpa using DnA.cons h ha
  | _, _, _, _, n + 1, .cons h ha, h' => by simpa using DnA.cons h (DnA.set n ha h')
theorem DnA.rev : ∀ {vs : List V} {ds : List D}, DnA K F vs ds → DnA K F vs.reverse ds.reverse
  | _, _, .nil => .nil
  | _, _, .cons h ha => by
    rw [List.reverse_cons, List.reverse_cons]
    exact DnA.app (DnA.rev ha) (.cons h .nil)
theorem Dn.list_inv {v : V} {ds : List D} (h : Dn K F v (.list ds)) : ∃ a xs, v = .ref a ∧ F a = some (.lst xs) ∧ DnA K F xs ds := by
  cases h with
  | lst h ha => exact ⟨_, _, rfl, h, ha⟩
theorem Dn.ro_inv {v : V} {ds : List D} (h : Dn K F v (.ro ds)) : ∃ a xs, v = .ref a ∧ SqL K F a xs ∧ DnA K F xs ds := by
  cases h with
  | ro h ha => exact ⟨_, _, rfl, h, ha⟩
theorem Dn.tuple_inv {v : V} {ds : List D} (h : Dn K F v (.tuple ds)) : ∃ a xs, v = .ref a ∧ SqT K F a xs ∧ DnA K F xs ds := by
  cases h with
  | tup h ha => exact ⟨_, _, rfl, SqT.of h, ha⟩
theorem Dn.tuple_invS {v : V} {ds : List D} (h : Dn K F v (.tuple ds)) : ∃ a xs, v = .ref a ∧ F a = some (.tup xs) ∧ DnA K F xs ds := by
  cases h with
  | tup h ha => exact ⟨_, _, rfl, h, ha⟩
theorem Dn.dict_inv {v : V} {t : Bool} {ks vs : List D} (h : Dn K F v (.dict t ks vs)) : ∃ a o xs, v = .ref a ∧ F a = some o ∧ DcO t o ks xs ∧ DnA K F xs vs := by
  cases h with
  | dic h hk ha => exact ⟨_, _, _, rfl, h, hk, ha⟩
theorem Dn.int_inv {v : V} {i : Int} (h : Dn K F v (.int i)) : v = .int i := by cases h; rfl
theorem Dn.bool_inv {v : V} {i : Bool} (h : Dn K F v (.bool i)) : v = .bl i := by cases h; rfl
theorem Dn.str_inv {v : V} {i : Str} (h : Dn K F v (.str i)) : v = .str i := by cases h; rfl
theorem Dn.none_inv {v : V} (h : Dn K F v .none) : v = .non := by cases h; rfl
theorem DnA.ints : ∀ {vs : List V} {is : List Int}, DnA K F vs (is.map .int) → vs = is.map .int
  | _, [], h => by cases h; rfl
  | _, i :: is, h => by
    cases h with
    | cons h ha =>
      rw [h.int_inv, DnA.ints ha]
      rfl
theorem DnA.strs : ∀ {vs : List V} {is : List Str}, DnA K F vs (is.map .str) → vs = is.map .str
  | _, [], h => by cases h; rfl
  | _, i :: is, h => by
    cases h with
    | cons h ha =>
      rw [h.str_inv, DnA.strs ha]
      rfl
theorem DnA.bools : ∀ {vs : List V} {is : List Bool}, DnA K F vs (is.map .bool) → vs = is.map .bl
  | _, [], h => by cases h; rfl
  | _, i :: is, h => by
    cases h with
    | cons h ha =>
      rw [h.bool_inv, DnA.bools ha]
      rfl
theorem dnA_ints : ∀ is : List Int, DnA K F (is.map .int) (is.map .int)
  | [] => .nil
  | i :: is => .cons (.int i) (dnA_ints is)
theorem dnA_strs : ∀ is : List Str, DnA K F (is.map .str) (is.map .str)
  | [] => .nil
  | i :: is => .cons (.str i) (dnA_strs is)
theorem dnA_bools : ∀ is : List Bool, DnA K F (is.map .bl) (is.map .bool)
  | [] => .nil
  | i :: is => .cons (.bl i) (dnA_bools is)
end

/-! ### the heap goes on -/
structure Go (F H F' H' : Hp) (ms : Addr → Prop) : Prop where
  ff : Ex F F'
  hh : ∀ b o, H b = some o → ¬ ms b → H' b = some o
  fh : Ex F' H'
  st : ∀ b, F b = none → (H b).isSome = true → F' b = none ∧ (H' b).isSome = true
abbrev noA : Addr → Prop := fun _ => False
section
variable {F H F1 H1 F2 H2 : Hp} {ms ms' : Addr → Prop} {a : Addr} {o : HO}
theorem Go.refl (e : Ex F H) : Go F H F H ms := ⟨Evl.Ex.refl _, fun _ _ h _ => h, e, fun _ h1 h2 => ⟨h1, h2⟩⟩
theorem Go.trans (x : Go F H F1 H1 ms) (y : Go F1 H1 F2 H2 ms) : Go F H F2 H2 ms :=
  ⟨x.ff.trans y.ff, fun b o h n => y.hh b o (x.hh b o h n) n, y.fh, fun b h1 h2 => let ⟨p, q⟩ := x.st b h1 h2; y.st b p q⟩
theorem Go.mono (x : Go F H F1 H1 ms) (h : ∀ b, ms b → ms' b) : Go F H F1 H1 ms' := ⟨x.ff, fun b o e n => x.hh b o e fun z => n (h b z), x.fh, x.st⟩
theorem Go.any (x : Go F H F1 H1 noA) : Go F H F1 H1 ms := x.mono fun _ z => z.elim
/-- what was there, frozen or not, is there -/
theorem Go.some' (x : Go F H F1 H1 ms) (e : Ex F H) {b : Addr} (h : (H b).isSome = true) : (H1 b).isSome = true := by
  cases q : F b with
  | none => exact (x.st b q h).2
  | some u => rw [x.fh b u (x.ff b u q)]; rfl
theorem Go.old (x : Go F H F1 H1 ms) (e : Ex F H) {b : Addr} (h : H1 b = none) : H b = none := by
  cases q : H b with
  | none => rfl
  | some u =>
    have := x.some' e (b := b) (by rw [q]; rfl)
    rw [h] at this
    cases this
theorem ex_none {F H : Hp} (e : Ex F H) {b : Addr} (h : H b = none) : F b = none := by
  cases q : F b with
  | none => rfl
  | some u => rw [e b u q] at h; cases h
/-- a new object, frozen at once -/
theorem Go.newF (e : Ex F H) (h : H a = none) : Go F H (upd F a o) (upd H a o) ms := by
  refine ⟨Evl.Ex.new (ex_none e h), fun b u q _ => ?_, fun b u q => ?_, fun b h1 h2 => ?_⟩
  · rw [upd_ne (ne_of_none q h)]; exact q
  · by_cases hb : b = a
    · subst hb; rw [upd_same] at q ⊢; exact q
    · rw [upd_ne hb] at q ⊢; exact e b u q
  · have hb : b ≠ a := fun z => by subst z; rw [h] at h2; cases h2
    rw [upd_ne hb, upd_ne hb]
    exact ⟨h1, h2⟩
/-- a new object of its own -/
theorem Go.newO (e : Ex F H) (h : H a = none) : Go F H F (upd H a o) ms := by
  refine ⟨Evl.Ex.refl _, fun b u q _ => ?_, fun b u q => ?_, fun b h1 h2 => ?_⟩
  · rw [upd_ne (ne_of_none q h)]; exact q
  · rw [upd_ne (ne_of_none q (ex_none e h))]; exact e b u q
  · have hb : b ≠ a := fun z => by subst z; rw [h] at h2; cases h2
    rw [upd_ne hb]
    exact ⟨h1, h2⟩
/-- a new object of its own is frozen -/
theorem Go.frz (x : Go F H F1 H1 ms) (h : H a = none) (h1 : F1 a = none) (h2 : H1 a = some o) : Go F H (upd F1 a o) H1 ms := by
  refine ⟨x.ff.trans (Evl.Ex.new h1), x.hh, fun b u q => ?_, fun b p q => ?_⟩
  · by_cases hb : b = a
    · subst hb; rw [upd_same] at q; cases q; exact h2
    · rw [upd_ne hb] at q; exact x.fh b u q
  · have hb : b ≠ a := fun z => by subst z; rw [h] at q; cases q
    rw [upd_ne hb]
    exact x.st b p q
/-- an object that is not frozen is written -/
theorem Go.wr (e : Ex F H) (h : F a = none) (hm : ms a) (hs : (H a).isSome = true) : Go F H F (upd H a o) ms := by
  refine ⟨Evl.Ex.refl _, fun b u q n => ?_, fun b u q => ?_, fun b h1 h2 => ?_⟩
  · have hb : b ≠ a := fun z => by subst z; exact n hm
    rw [upd_ne hb]; exact q
  · rw [upd_ne (ne_of_none q h)]; exact e b u q
  · by_cases hb : b = a
    · subst hb; rw [upd_same]; exact ⟨h1, rfl⟩
    · rw [upd_ne hb]; exact ⟨h1, h2⟩
end

/-! ### the state -/
/-- the object of a cell, its members -/
def CeO (o : HO) : Ce → List V → Prop
  | .f _, _ => False
  | .l _ _, xs => o = .lst xs
  | .k _ t ks _, xs => DcO t o ks xs
/-- the entry: what was frozen, what was there, which slots hold what was handed in to be changed -/
structure Bs where
  F : Hp
  H : Hp
  io : List (Nat × Addr)
def Bs.ms (G : Bs) : Addr → Prop := fun a => ∃ i, (i, a) ∈ G.io
def At (K : PySem.W.Frag) (G : Bs) (F H : Hp) (i : Nat) (c : Ce) (v : V) : Prop :=
  (∃ d, c = .f d ∧ Dn K F v d) ∨
    ∃ a o xs, v = .ref a ∧ F a = none ∧ H a = some o ∧ CeO o c xs ∧ DnA K F xs c.mem ∧ (c.io = true → (i, a) ∈ G.io) ∧ (c.io = false → G.H a = none)
/-- the addresses of one's own objects -/
def Lv (σ : L2.St) (e : En) : Addr → Prop := fun a => ∃ (i : Nat) (c : Ce), e[i]? = some (some c) ∧ c.ow = true ∧ σ[i]? = some (some (V.ref a))
structure R (K : PySem.W.Frag) (G : Bs) (F H : Hp) (σ : L2.St) (e : En) : Prop where
  go : Go G.F G.H F H G.ms
  ba : Ex G.F G.H
  at_ : ∀ (i : Nat) (c : Ce), e[i]? = some (some c) → ∃ v, σ[i]? = some (some v) ∧ At K G F H i c v
  sep : ∀ (i j : Nat) (c c' : Ce) (a : Addr), i ≠ j → e[i]? = some (some c) → e[j]? = some (some c') → c.ow = true → c'.ow = true → σ[i]? = some (some (V.ref a)) → σ[j]? ≠ some (some (V.ref a))
  io : ∀ p ∈ G.io, σ[p.1]? = some (some (V.ref p.2)) ∧ ∃ c : Ce, e[p.1]? = some (some c) ∧ c.io = true
  len : e.length = σ.length
structure Nx (K : PySem.W.Frag) (G : Bs) (σ : L2.St) (F H : Hp) (e : En) (F' H' : Hp) (e' : En) : Prop where
  r : R K G F' H' σ e'
  go : Go F H F' H' (Lv σ e)
  sh : e'.map (Option.map Ce.kd) = e.map (Option.map Ce.kd)
section
variable {K : PySem.W.Frag} {G : Bs} {F H F1 H1 F2 H2 : Hp} {σ : L2.St} {e e1 e2 : En} {v : V} {d : D} {c : Ce} {i : Nat} {a : Addr}
theorem R.fh (r : R K G F H σ e) : Ex F H := r.go.fh
theorem CeO.ow {o : HO} {xs : List V} (h : CeO o c xs) : c.ow = true := by
  cases c with
  | f d => exact h.elim
  | l p ds => rfl
  | k p t ks vs => rfl
theorem At.fz (h : At K G F H i (.f d) v) : Dn K F v d := by
  rcases h with ⟨d', e, h⟩ | ⟨a, o, xs, _, _, _, h, _⟩
  · cases e; exact h
  · exact h.elim
theorem At.own (h : At K G F H i c v) (hc : c.ow = true) : ∃ a o xs, v = .ref a ∧ F a = none ∧ H a = some o ∧ CeO o c xs ∧ DnA K F xs c.mem ∧ (c.io = true → (i, a) ∈ G.io) ∧ (c.io = false → G.H a = none) := by
  rcases h with ⟨d, e, h⟩ | h
  · subst e; cases hc
  · exact h
theorem kd_ow {c c' : Ce} (h : c.kd = c'.kd) : c.ow = c'.ow ∧ c.io = c'.io := by
  cases c with
  | f d => cases c' with
    | f d' => exact ⟨rfl, rfl⟩
    | l p ds => cases p <;> cases h
    | k p t ks vs => cases p <;> cases t <;> cases h
  | l p ds => cases c' with
    | f d' => cases p <;> cases h
    | l p' ds => cases p <;> cases p' <;> first | exact ⟨rfl, rfl⟩ | cases h
    | k p' t ks vs => cases p <;> cases p' <;> cases t <;> cases h
  | k p t ks vs => cases c' with
    | f d' => cases p <;> cases t <;> cases h
    | l p' ds => cases p <;> cases p' <;> cases t <;> cases h
    | k p' t' ks vs => cases p <;> cases p' <;> cases t <;> cases t' <;> first | exact ⟨rfl, rfl⟩ | cases h
theorem sh_at (h : e1.map (Option.map Ce.kd) = e.map (Option.map Ce.kd)) (hc : e[i]? = some (some c)) : ∃ c' : Ce, e1[i]? = some (some c') ∧ c'.kd = c.kd := by
  have h1 : (e1.map (Option.map Ce.kd))[i]? = (e.map (Option.map Ce.kd))[i]? := by rw [h]
  rw [List.getElem?_map, List.getElem?_map, hc] at h1
  cases q : e1[i]? with
  | none => rw [q] at h1; cases h1
  | some o =>
    rw [q] at h1
    cases o with
    | none => cases h1
    | some c' => exact ⟨c', rfl, by simpa using h1⟩
theorem sh_lv (h : e1.map (Option.map Ce.kd) = e.map (Option.map Ce.kd)) {b : Addr} (hb : Lv σ e1 b) : Lv σ e b := by
  obtain ⟨i, c, h1, h2, h3⟩ := hb
  obtain ⟨c', h4, h5⟩ := sh_at h.symm h1
  exact ⟨i, c', h4, by rw [(kd_ow h5).1]; exact h2, h3⟩
theorem Nx.refl (r : R K G F H σ e) : Nx K G σ F H e F H e := ⟨r, Go.refl r.fh, rfl⟩
theorem Nx.trans (x : Nx K G σ F H e F1 H1 e1) (y : Nx K G σ F1 H1 e1 F2 H2 e2) : Nx K G σ F H e F2 H2 e2 :=
  ⟨y.r, x.go.trans (y.go.mono fun _ hb => sh_lv x.sh hb), y.sh.trans x.sh⟩
theorem Nx.dn (x : Nx K G σ F H e F1 H1 e1) (h : Dn K F v d) : Dn K F1 v d := h.mono x.go.ff
/-- of one's own, so there -/
theorem R.lv (r : R K G F H σ e) {b : Addr} (h : Lv σ e b) : F b = none ∧ (H b).isSome = true := by
  obtain ⟨i, c, h1, h2, h3⟩ := h
  obtain ⟨v, h4, h5⟩ := r.at_ i c h1
  obtain ⟨a, o, xs, rfl, h6, h7, _⟩ := h5.own h2
  rw [h3] at h4
  cases h4
  exact ⟨h6, by rw [h7]; rfl⟩
theorem At.step (h : At K G F H i c v) (go : Go F H F1 H1 noA) : At K G F1 H1 i c v := by
  rcases h with ⟨d, e, h⟩ | ⟨a, o, xs, h1, h2, h3, h4, h5, h6, h7⟩
  · exact .inl ⟨d, e, h.mono go.ff⟩
  · refine .inr ⟨a, o, xs, h1, (go.st a h2 (by rw [h3]; rfl)).1, go.hh a o h3 (fun z => z), h4, h5.mono go.ff, h6, h7⟩
/-- nothing of one's own is changed -/
theorem R.step (r : R K G F H σ e) (go : Go F H F1 H1 noA) : Nx K G σ F H e F1 H1 e :=
  ⟨⟨r.go.trans go.any, r.ba, fun i c h => let ⟨v, h1, h2⟩ := r.at_ i c h; ⟨v, h1, h2.step go⟩, r.sep, r.io, r.len⟩, go.any, rfl⟩
/-- new since H, so of no slot, and not of the entry -/
theorem R.new (r : R K G F H σ e) (h : H a = none) : ¬ Lv σ e a ∧ G.H a = none ∧ G.F a = none ∧ F a = none := by
  have g : G.H a = none := r.go.old r.ba h
  exact ⟨fun z => (by have := (r.lv z).2; rw [h] at this; cases this), g, ex_none r.ba g, ex_none r.fh h⟩
end

/-! ### values that come -/
/-- new or frozen: c is v, come since H -/
def NAt (K : PySem.W.Frag) (H F' H' : Hp) (c : Ce) (v : V) : Prop :=
  (∃ d, c = .f d ∧ Dn K F' v d) ∨ (c.io = false ∧ ∃ a o xs, v = .ref a ∧ H a = none ∧ F' a = none ∧ H' a = some o ∧ CeO o c xs ∧ DnA K F' xs c.mem)
/-- a handle: a value (frozen, or new), or what stands in a slot when it is looked at -/
inductive Hd where
  | v (c : Ce) | s (i : Nat)
def HAt (K : PySem.W.Frag) (G : Bs) (σ : L2.St) (F H : Hp) (e : En) : Hd → V → Prop
  | .v c, v => (∃ d, c = .f d ∧ Dn K F v d) ∨ (c.io = false ∧ ∃ a o xs, v = .ref a ∧ G.H a = none ∧ F a = none ∧ H a = some o ∧ ¬ Lv σ e a ∧ CeO o c xs ∧ DnA K F xs c.mem)
  | .s i, v => σ[i]? = some (some v) ∧ ∃ c : Ce, e[i]? = some (some c)
def Hd.get (h : Hd) (e : En) : Rs D := match h with
  | .v c => .ok c.d
  | .s i => match e[i]? with
    | some (some c) => .ok c.d
    | _ => .no
/-- v looks like d just now -/
def Vw (K : PySem.W.Frag) (F H : Hp) (d : D) (v : V) : Prop :=
  Dn K F v d ∨ ∃ a o xs c, v = .ref a ∧ H a = some o ∧ CeO o c xs ∧ DnA K F xs c.mem ∧ d = c.d
section
variable {K : PySem.W.Frag} {G : Bs} {F H F1 H1 F2 H2 : Hp} {σ : L2.St} {e e1 e2 : En} {v : V} {d : D} {c : Ce} {i : Nat} {a : Addr} {h : Hd}
theorem NAt.fz (x : NAt K H F1 H1 (.f d) v) : Dn K F1 v d := by
  rcases x with ⟨d', e, h⟩ | ⟨_, a, o, xs, _, _, _, _, h, _⟩
  · cases e; exact h
  · exact h.elim
theorem NAt.hat (x : NAt K H F1 H1 c v) (r : R K G F H σ e) (n : Nx K G σ F H e F1 H1 e1) : HAt K G σ F1 H1 e1 (.v c) v := by
  rcases x with ⟨d, rfl, h⟩ | ⟨hio, a, o, xs, rfl, h1, h2, h3, h4, h5⟩
  · exact .inl ⟨d, rfl, h⟩
  · obtain ⟨p, q, _⟩ := r.new h1
    exact .inr ⟨hio, a, o, xs, rfl, q, h2, h3, fun z => p (sh_lv n.sh z), h4, h5⟩
theorem HAt.nx (x : HAt K G σ F H e h v) (n : Nx K G σ F H e F1 H1 e1) : HAt K G σ F1 H1 e1 h v := by
  cases h with
  | v c =>
    rcases x with ⟨d, rfl, h⟩ | ⟨hio, a, o, xs, rfl, h1, h2, h3, h3b, h4, h5⟩
    · exact .inl ⟨d, rfl, n.dn h⟩
    · refine .inr ⟨hio, a, o, xs, rfl, h1, (n.go.st a h2 (by rw [h3]; rfl)).1, n.go.hh a o h3 h3b, fun z => h3b (sh_lv n.sh z), h4, h5.mono n.go.ff⟩
  | s i =>
    obtain ⟨h1, c, h2⟩ := x
    obtain ⟨c', h3, _⟩ := sh_at n.sh h2
    exact ⟨h1, c', h3⟩
theorem HAt.vw (x : HAt K G σ F H e h v) (r : R K G F H σ e) (g : h.get e = .ok d) : Vw K F H d v := by
  cases h with
  | v c =>
    have gd : c.d = d := Rs.ok.inj g
    rcases x with ⟨d', rfl, h⟩ | ⟨hio, a, o, xs, rfl, h1, h2, h3, h3b, h4, h5⟩
    · subst gd; exact .inl h
    · exact .inr ⟨a, o, xs, c, rfl, h3, h4, h5, gd.symm⟩
  | s i =>
    obtain ⟨h1, c, h2⟩ := x
    have gd : c.d = d := by
      simp only [Hd.get, h2] at g
      exact Rs.ok.inj g
    obtain ⟨v', h3, h4⟩ := r.at_ i c h2
    rw [h1] at h3
    cases h3
    rcases h4 with ⟨d', rfl, h⟩ | ⟨a, o, xs, rfl, h5, h6, h7, h8, _⟩
    · subst gd; exact .inl h
    · exact .inr ⟨a, o, xs, c, rfl, h6, h7, h8, gd.symm⟩
theorem Vw.int {i : Int} (x : Vw K F H (.int i) v) : v = .int i := by
  rcases x with h | ⟨a, o, xs, c, rfl, _, h, _, e⟩
  · exact h.int_inv
  · cases c <;> first | exact h.elim | cases e
theorem Vw.bool {i : Bool} (x : Vw K F H (.bool i) v) : v = .bl i := by
  rcases x with h | ⟨a, o, xs, c, rfl, _, h, _, e⟩
  · exact h.bool_inv
  · cases c <;> first | exact h.elim | cases e
theorem Vw.str {i : Str} (x : Vw K F H (.str i) v) : v = .str i := by
  rcases x with h | ⟨a, o, xs, c, rfl, _, h, _, e⟩
  · exact h.str_inv
  · cases c <;> first | exact h.elim | cases e
theorem Vw.none (x : Vw K F H .none v) : v = .non := by
  rcases x with h | ⟨a, o, xs, c, rfl, _, h, _, e⟩
  · exact h.none_inv
  · cases c <;> first | exact h.elim | cases e
theorem Vw.list {ds : List D} (x : Vw K F H (.list ds) v) (fh : Ex F H) : ∃ a xs, v = .ref a ∧ H a = some (.lst xs) ∧ DnA K F xs ds := by
  rcases x with h | ⟨a, o, xs, c, rfl, h1, h, h2, e⟩
  · obtain ⟨a, xs, e1, h1, h2⟩ := h.list_inv
    exact ⟨a, xs, e1, fh _ _ h1, h2⟩
  · cases c with
    | f d => exact h.elim
    | l p ds' =>
      cases e
      have h' : o = .lst xs := h
      subst h'
      exact ⟨a, xs, rfl, h1, h2⟩
    | k p t ks vs => cases e
theorem Vw.ro {ds : List D} (x : Vw K F H (.ro ds) v) (fh : Ex F H) : ∃ a xs, v = .ref a ∧ SqL K H a xs ∧ DnA K F xs ds := by
  rcases x with h | ⟨a, o, xs, c, rfl, h1, h, h2, e⟩
  · obtain ⟨a, xs, e1, h1, h2⟩ := h.ro_inv
    exact ⟨a, xs, e1, Evl.ex_l fh h1, h2⟩
  · cases c <;> first | exact h.elim | cases e
theorem Vw.tuple {ds : List D} (x : Vw K F H (.tuple ds) v) (fh : Ex F H) : ∃ a xs, v = .ref a ∧ SqT K H a xs ∧ DnA K F xs ds ∧ Dn K F v (.tuple ds) := by
  rcases x with h | ⟨a, o, xs, c, rfl, h1, h, h2, e⟩
  · obtain ⟨a, xs, e1, h1, h2⟩ := h.tuple_inv
    exact ⟨a, xs, e1, Evl.ex_t fh h1, h2, h⟩
  · cases c <;> first | exact h.elim | cases e
theorem Vw.dict {t : Bool} {ks vs : List D} (x : Vw K F H (.dict t ks vs) v) (fh : Ex F H) : ∃ a o xs, v = .ref a ∧ H a = some o ∧ DcO t o ks xs ∧ DnA K F xs vs := by
  rcases x with h | ⟨a, o, xs, c, rfl, h1, h, h2, e⟩
  · obtain ⟨a, o, xs, e1, h1, h2, h3⟩ := h.dict_inv
    exact ⟨a, o, xs, e1, fh _ _ h1, h2, h3⟩
  · cases c with
    | f d => exact h.elim
    | l p ds' => cases e
    | k p t' ks' vs' =>
      cases e
      exact ⟨a, o, xs, rfl, h1, h, h2⟩
/-- data that is a mere value is itself -/
def D.flat : D → Bool
  | .none => true | .bool _ => true | .int _ => true | .str _ => true | _ => false
end
end DL

namespace DL
open PySem L2

/-! ### weaker readings -/
section
variable {X : Cx} {e : Expr} {es : List Expr}
theorem PEimp {t t' : TE} (h : PE X e t) (hi : ∀ σ H Q, t' σ H Q → t σ H Q) : PE X e t' := ⟨fun pins s σ H Q I q => h.run pins s σ H Q I (hi σ H Q q)⟩
theorem PTimp {t t' : TT} (h : PT X e t) (hi : ∀ σ H Q, t' σ H Q → t σ H Q) : PT X e t' := ⟨fun pins s σ H Q I q => h.run pins s σ H Q I (hi σ H Q q)⟩
theorem PWimp {t t' : TT} (h : PW X e t) (hi : ∀ σ H Q, t' σ H Q → t σ H Q) : PW X e t' := ⟨fun wh pins s σ H Q I q => h.run wh pins s σ H Q I (hi σ H Q q)⟩
theorem PAimp {t t' : TA} (h : PA X es t) (hi : ∀ σ H Q, t' σ H Q → t σ H Q) : PA X es t' := ⟨fun pos pins s σ H Q I q => h.run pos pins s σ H Q I (hi σ H Q q)⟩
end

/-! ### meanings -/
section
variable (K : PySem.W.Frag)
def tF (m : M D) : TE := fun σ H Q => ∃ G F e d e', R K G F H σ e ∧ m e = .ok (d, e') ∧ ∀ v F' H', Nx K G σ F H e F' H' e' → Dn K F' v d → Q v H'
def tN (m : M Ce) : TE := fun σ H Q => ∃ G F e c e', R K G F H σ e ∧ m e = .ok (c, e') ∧ ∀ v F' H', Nx K G σ F H e F' H' e' → NAt K H F' H' c v → Q v H'
def tH (m : M Hd) : TE := fun σ H Q => ∃ G F e c e', R K G F H σ e ∧ m e = .ok (c, e') ∧ ∀ v F' H', Nx K G σ F H e F' H' e' → HAt K G σ F' H' e' c v → Q v H'
def tT (m : M Bool) : TT := fun σ H Q => ∃ G F e b e', R K G F H σ e ∧ m e = .ok (b, e') ∧ ∀ F' H', Nx K G σ F H e F' H' e' → Q b H'
def tA (m : M (List D)) : TA := fun σ H Q => ∃ G F e ds e', R K G F H σ e ∧ m e = .ok (ds, e') ∧ ∀ vs F' H', Nx K G σ F H e F' H' e' → DnA K F' vs ds → Q vs H'
inductive HAs (G : Bs) (σ : L2.St) (F H : Hp) (e : En) : List Hd → List V → Prop where
  | nil : HAs G σ F H e [] []
  | cons {h : Hd} {hs : List Hd} {v : V} {vs : List V} : HAt K G σ F H e h v → HAs G σ F H e hs vs → HAs G σ F H e (h :: hs) (v :: vs)
def tHA (m : M (List Hd)) : TA := fun σ H Q => ∃ G F e ds e', R K G F H σ e ∧ m e = .ok (ds, e') ∧ ∀ vs F' H', Nx K G σ F H e F' H' e' → HAs K G σ F' H' e' ds vs → Q vs H'
end
abbrev PF (X : Cx) (e : Expr) (m : M D) : Prop := PE X e (tF X.K m)
abbrev PN (X : Cx) (e : Expr) (m : M Ce) : Prop := PE X e (tN X.K m)
abbrev PH (X : Cx) (e : Expr) (m : M Hd) : Prop := PE X e (tH X.K m)
abbrev PTd (X : Cx) (e : Expr) (m : M Bool) : Prop := PT X e (tT X.K m)
abbrev PWd (X : Cx) (e : Expr) (m : M Bool) : Prop := PW X e (tT X.K m)
abbrev PAd (X : Cx) (es : List Expr) (m : M (List D)) : Prop := PA X es (tA X.K m)
abbrev PAh (X : Cx) (es : List Expr) (m : M (List Hd)) : Prop := PA X es (tHA X.K m)

section
variable {X : Cx} {ex ey ez : Expr} {es : List Expr} {pos : Pos} {K : PySem.W.Frag}
variable {G : Bs} {F H F1 H1 F2 H2 : Hp} {σ : L2.St} {e e1 e2 : En} {v : V} {d : D} {c : Ce} {a : Addr}
theorem NAt.back (n : NAt K H1 F2 H2 c v) (go : Go F H F1 H1 (Lv σ e)) (fh : Ex F H) : NAt K H F2 H2 c v := by
  rcases n with ⟨d, rfl, h⟩ | ⟨hio, a, o, xs, rfl, h1, h2⟩
  · exact .inl ⟨d, rfl, h⟩
  · exact .inr ⟨hio, a, o, xs, rfl, go.old fh h1, h2⟩
theorem R.frz {o : HO} (r : R K G F H σ e) (h1 : F a = none) (h2 : H a = some o) (h3 : ¬ Lv σ e a) (h4 : G.H a = none) : R K G (upd F a o) H σ e := by
  refine ⟨r.go.frz h4 h1 h2, r.ba, fun i c h => ?_, r.sep, r.io, r.len⟩
  obtain ⟨v, e1, e2⟩ := r.at_ i c h
  refine ⟨v, e1, ?_⟩
  rcases e2 with ⟨d, rfl, hd⟩ | ⟨b, u, xs, rfl, q1, q2, q3, q4, q5, q6⟩
  · exact .inl ⟨d, rfl, hd.mono (Evl.Ex.new h1)⟩
  · have hb : b ≠ a := fun z => by
      subst z
      exact h3 ⟨i, c, h, q3.ow, e1⟩
    exact .inr ⟨b, u, xs, rfl, by rw [upd_ne hb]; exact q1, q2, q3, q4.mono (Evl.Ex.new h1), q5, q6⟩
/-- what is new is frozen -/
theorem NAt.frz (n : NAt K H F1 H1 c v) (r : R K G F H σ e) (x : Nx K G σ F H e F1 H1 e1) : ∃ F2, Nx K G σ F H e F2 H1 e1 ∧ Ex F1 F2 ∧ Dn K F2 v c.d := by
  rcases n with ⟨d, rfl, h⟩ | ⟨hio, a, o, xs, rfl, h1, h2, h3, h4, h5⟩
  · exact ⟨F1, x, Evl.Ex.refl _, h⟩
  · obtain ⟨p, q, _⟩ := r.new h1
    refine ⟨upd F1 a o, ⟨x.r.frz h2 h3 (fun z => p (sh_lv x.sh z)) q, x.go.frz h1 h2 h3, x.sh⟩, Evl.Ex.new h2, ?_⟩
    cases c with
    | f d => exact h4.elim
    | l p ds =>
      have h4' : o = .lst xs := h4
      subst h4'
      exact .lst upd_same (h5.mono (Evl.Ex.new h2))
    | k p t ks vs => exact .dic upd_same h4 (h5.mono (Evl.Ex.new h2))

/-! ### from one reading to another -/
def mN (m : M D) : M Ce := fun e => (m e).bind fun p => .ok (.f p.1, p.2)
def mZ (m : M Ce) : M D := fun e => (m e).bind fun p => .ok (p.1.d, p.2)
def mH (m : M Ce) : M Hd := fun e => (m e).bind fun p => .ok (.v p.1, p.2)
theorem bind_ok2 {α β : Type} {m : M α} {f : α × En → Rs β} {e : En} {b : β} (h : (m e).bind f = .ok b) : ∃ a e1, m e = .ok (a, e1) ∧ f (a, e1) = .ok b := by
  obtain ⟨⟨a, e1⟩, h1, h2⟩ := Rs.bind_eq h
  exact ⟨a, e1, h1, h2⟩
theorem pn_f {m : M D} (h : PF X ex m) : PN X ex (mN m) := PEimp h fun σ H Q ⟨G, F, e, c, e', r, hm, q⟩ => by
  obtain ⟨d, e1, h1, h2⟩ := bind_ok2 hm
  cases h2
  exact ⟨G, F, e, d, e1, r, h1, fun v F' H' n hd => q v F' H' n (.inl ⟨d, rfl, hd⟩)⟩
theorem pf_n {m : M Ce} (h : PN X ex m) : PF X ex (mZ m) := PEimp h fun σ H Q ⟨G, F, e, d, e', r, hm, q⟩ => by
  obtain ⟨c, e1, h1, h2⟩ := bind_ok2 hm
  cases h2
  refine ⟨G, F, e, c, e1, r, h1, fun v F' H' n hn => ?_⟩
  obtain ⟨F2, n2, _, hd⟩ := hn.frz r n
  exact q v F2 H' n2 hd
theorem ph_n {m : M Ce} (h : PN X ex m) : PH X ex (mH m) := PEimp h fun σ H Q ⟨G, F, e, d, e', r, hm, q⟩ => by
  obtain ⟨c, e1, h1, h2⟩ := bind_ok2 hm
  cases h2
  exact ⟨G, F, e, c, e1, r, h1, fun v F' H' n hn => q v F' H' n (hn.hat r n)⟩
theorem ph_f {m : M D} (h : PF X ex m) : PH X ex (mH (mN m)) := ph_n (pn_f h)

/-! ### names and constants -/
def mVar (i : Nat) : M D := fun e => match e[i]? with
  | some (some (.f d)) => .ok (d, e)
  | _ => .no
def mSl (i : Nat) : M Hd := fun e => match e[i]? with
  | some (some _) => .ok (.s i, e)
  | _ => .no
theorem mVar_ok {i : Nat} {e e' : En} {d : D} (h : mVar i e = .ok (d, e')) : e[i]? = some (some (.f d)) ∧ e' = e := by
  unfold mVar at h
  split at h
  · rename_i d' q
    cases h
    exact ⟨q, rfl⟩
  · cases h
theorem mSl_ok {i : Nat} {e e' : En} {h' : Hd} (h : mSl i e = .ok (h', e')) : (∃ c, e[i]? = some (some c)) ∧ h' = .s i ∧ e' = e := by
  unfold mSl at h
  split at h
  · rename_i d' q
    cases h
    exact ⟨⟨_, q⟩, rfl, rfl⟩
  · cases h
theorem pf_var {i : Nat} (h : PE X ex (tVar i)) : PF X ex (mVar i) := PEimp h fun σ H Q ⟨G, F, e, d, e', r, hm, q⟩ => by
  obtain ⟨h1, rfl⟩ := mVar_ok hm
  obtain ⟨v, h2, h3⟩ := r.at_ i _ h1
  exact ⟨v, h2, q v F H (Nx.refl r) h3.fz⟩
theorem ph_var {i : Nat} (h : PE X ex (tVar i)) : PH X ex (mSl i) := PEimp h fun σ H Q ⟨G, F, e, d, e', r, hm, q⟩ => by
  obtain ⟨⟨c, h1⟩, rfl, rfl⟩ := mSl_ok hm
  obtain ⟨v, h2, h3⟩ := r.at_ i _ h1
  exact ⟨v, h2, q v F H (Nx.refl r) ⟨h2, c, h1⟩⟩
/-- a constant -/
def mC (d : D) : M D := fun e => .ok (d, e)
@[simp] theorem mC_ap (d : D) (e : En) : mC d e = .ok (d, e) := rfl
theorem pf_c {v : V} {d : D} (h : PE X ex (tC v)) (hd : ∀ F, Dn X.K F v d) : PF X ex (mC d) := PEimp h fun σ H Q ⟨G, F, e, d', e', r, hm, q⟩ => by
  cases hm
  exact q v F H (Nx.refl r) (hd F)
theorem pf_int {i : Int} {j : Nat} : PF X (.Constant (.int i) j pos) (mC (.int i)) := pf_c pe_int fun _ => .int i
theorem pf_bl {b : Bool} {j : Nat} : PF X (.Constant (.bool b) j pos) (mC (.bool b)) := pf_c pe_bl fun _ => .bl b
theorem pf_non {j : Nat} : PF X (.Constant .none j pos) (mC .none) := pf_c pe_non fun _ => .non
theorem pf_str {x : Str} {j : Nat} : PF X (.Constant (.str x) j pos) (mC (.str x)) := pf_c pe_str fun _ => .str x

/-! ### operations on values -/
/-- the operation r on two values does what g says of data -/
def Snd2 (K : PySem.W.Frag) (r : R2) (g : D → D → Rs Ce) : Prop := ∀ (F H : Hp) (x y : V) (dx dy : D) (c : Ce) (Q : VK), Ex F H → Vw K F H dx x → Vw K F H dy y → g dx dy = .ok c →
  (∀ v F' H', Go F H F' H' noA → NAt K H F' H' c v → Q v H') → r x y H Q
def Snd1 (K : PySem.W.Frag) (r : V → Hp → VK → Prop) (g : D → Rs Ce) : Prop := ∀ (F H : Hp) (x : V) (dx : D) (c : Ce) (Q : VK), Ex F H → Vw K F H dx x → g dx = .ok c →
  (∀ v F' H', Go F H F' H' noA → NAt K H F' H' c v → Q v H') → r x H Q
inductive VwA (K : PySem.W.Frag) (F H : Hp) : List D → List V → Prop where
  | nil : VwA K F H [] []
  | cons {d : D} {ds : List D} {v : V} {vs : List V} : Vw K F H d v → VwA K F H ds vs → VwA K F H (d :: ds) (v :: vs)
def SndL (K : PySem.W.Frag) (r : List V → Hp → VK → Prop) (g : List D → Rs Ce) : Prop := ∀ (F H : Hp) (xs : List V) (ds : List D) (c : Ce) (Q : VK), Ex F H → VwA K F H ds xs → g ds = .ok c →
  (∀ v F' H', Go F H F' H' noA → NAt K H F' H' c v → Q v H') → r xs H Q
def m2 (g : D → D → Rs Ce) (ma mb : M Hd) : M Ce := fun e => (ma e).bind fun p => (mb p.2).bind fun q => (p.1.get q.2).bind fun x => (q.1.get q.2).bind fun y => (g x y).bind fun c => .ok (c, q.2)
def m1 (g : D → Rs Ce) (ma : M Hd) : M Ce := fun e => (ma e).bind fun p => (p.1.get p.2).bind fun x => (g x).bind fun c => .ok (c, p.2)
def gets : List Hd → En → Rs (List D)
  | [], _ => .ok []
  | h :: hs, e => (h.get e).bind fun d => (gets hs e).bind fun ds => .ok (d :: ds)
def mL (g : List D → Rs Ce) (ma : M (List Hd)) : M Ce := fun e => (ma e).bind fun p => (gets p.1 p.2).bind fun xs => (g xs).bind fun c => .ok (c, p.2)
/-- the shape that all two-place rules share -/
theorem op2 {r : R2} {g : D → D → Rs Ce} (hs : Snd2 K r g) {ma mb : M Hd} {σ : L2.St} {H : Hp} {Q : VK} (h : tN K (m2 g ma mb) σ H Q) : tOp r (tH K ma) (tH K mb) σ H Q := by
  obtain ⟨G, F, e, c, e', rr, hm, q⟩ := h
  obtain ⟨x, e1, h1, hm⟩ := bind_ok2 hm
  obtain ⟨y, e2, h2, hm⟩ := bind_ok2 hm
  obtain ⟨dx, h3, hm⟩ := Rs.bind_eq hm
  obtain ⟨dy, h4, hm⟩ := Rs.bind_eq hm
  obtain ⟨c', h5, hm⟩ := Rs.bind_eq hm
  cases hm
  refine ⟨G, F, e, x, e1, rr, h1, fun vx F1 H1 n1 hx => ⟨G, F1, e1, y, e2, n1.r, h2, fun vy F2 H2 n2 hy => ?_⟩⟩
  refine hs F2 H2 vx vy dx dy c Q n2.r.fh ((hx.nx n2).vw n2.r h3) (hy.vw n2.r h4) h5 fun v F' H' go nat => ?_
  have n12 := n1.trans n2
  exact q v F' H' (n12.trans (n2.r.step go)) (nat.back n12.go rr.fh)
theorem op1 {r : V → Hp → VK → Prop} {g : D → Rs Ce} (hs : Snd1 K r g) {ma : M Hd} {σ : L2.St} {H : Hp} {Q : VK} (h : tN K (m1 g ma) σ H Q) : (tH K ma) σ H fun x H1 => r x H1 Q := by
  obtain ⟨G, F, e, c, e', rr, hm, q⟩ := h
  obtain ⟨x, e1, h1, hm⟩ := bind_ok2 hm
  obtain ⟨dx, h3, hm⟩ := Rs.bind_eq hm
  obtain ⟨c', h5, hm⟩ := Rs.bind_eq hm
  cases hm
  refine ⟨G, F, e, x, _, rr, h1, fun vx F1 H1 n1 hx => ?_⟩
  refine hs F1 H1 vx dx c Q n1.r.fh (hx.vw n1.r h3) h5 fun v F' H' go nat => ?_
  exact q v F' H' (n1.trans (n1.r.step go)) (nat.back n1.go rr.fh)
theorem HAs.vw {G : Bs} {σ : L2.St} {F H : Hp} {e : En} (r : R K G F H σ e) : ∀ {hs : List Hd} {vs : List V} {ds : List D}, HAs K G σ F H e hs vs → gets hs e = .ok ds → VwA K F H ds vs
  | _, _, _, .nil, g => by cases g; exact .nil
  | _, _, _, .cons h t, g => by
    obtain ⟨d, h1, g⟩ := Rs.bind_eq g
    obtain ⟨ds, h2, g⟩ := Rs.bind_eq g
    cases g
    exact .cons (h.vw r h1) (HAs.vw r t h2)
theorem HAs.nx {G : Bs} {σ : L2.St} {F H F1 H1 : Hp} {e e1 : En} (n : Nx K G σ F H e F1 H1 e1) : ∀ {hs : List Hd} {vs : List V}, HAs K G σ F H e hs vs → HAs K G σ F1 H1 e1 hs vs
  | _, _, .nil => .nil
  | _, _, .cons h t => .cons (h.nx n) (HAs.nx n t)
theorem opL {r : List V → Hp → VK → Prop} {g : List D → Rs Ce} (hs : SndL K r g) {ma : M (List Hd)} {σ : L2.St} {H : Hp} {Q : VK} (h : tN K (mL g ma) σ H Q) : tCB r (tHA K ma) σ H Q := by
  obtain ⟨G, F, e, c, e', rr, hm, q⟩ := h
  obtain ⟨x, e1, h1, hm⟩ := bind_ok2 hm
  obtain ⟨dx, h3, hm⟩ := Rs.bind_eq hm
  obtain ⟨c', h5, hm⟩ := Rs.bind_eq hm
  cases hm
  refine ⟨G, F, e, x, _, rr, h1, fun vx F1 H1 n1 hx => ?_⟩
  refine hs F1 H1 vx dx c Q n1.r.fh (hx.vw n1.r h3) h5 fun v F' H' go nat => ?_
  exact q v F' H' (n1.trans (n1.r.step go)) (nat.back n1.go rr.fh)

/-! ### arguments -/
def aNil {α : Type} : M (List α) := fun e => .ok ([], e)
def aCons {α : Type} (m : M α) (ms : M (List α)) : M (List α) := fun e => (m e).bind fun p => (ms p.2).bind fun q => .ok (p.1 :: q.1, q.2)
theorem pad_nil : PAd X [] aNil := PAimp pa_nil fun σ H Q ⟨G, F, e, d, e', r, hm, q⟩ => by
  cases hm
  exact q [] F H (Nx.refl r) .nil
theorem pad_cons {m : M D} {ms : M (List D)} (ha : PF X ex m) (hr : PAd X es ms) (hs : starEach (ex :: es) X.env = (false, eval ex X.env) :: starEach es X.env := by rfl) : PAd X (ex :: es) (aCons m ms) := PAimp (pa_cons ha hr hs) fun σ H Q ⟨G, F, e, d, e', r, hm, q⟩ => by
  obtain ⟨x, e1, h1, hm⟩ := bind_ok2 hm
  obtain ⟨y, e2, h2, hm⟩ := bind_ok2 hm
  cases hm
  exact ⟨G, F, e, x, e1, r, h1, fun v F1 H1 n1 hd => ⟨G, F1, e1, y, e2, n1.r, h2, fun vs F2 H2 n2 hds => q (v :: vs) F2 H2 (n1.trans n2) (.cons (n2.dn hd) hds)⟩⟩
theorem pah_nil : PAh X [] aNil := PAimp pa_nil fun σ H Q ⟨G, F, e, d, e', r, hm, q⟩ => by
  cases hm
  exact q [] F H (Nx.refl r) .nil
theorem pah_cons {m : M Hd} {ms : M (List Hd)} (ha : PH X ex m) (hr : PAh X es ms) (hs : starEach (ex :: es) X.env = (false, eval ex X.env) :: starEach es X.env := by rfl) : PAh X (ex :: es) (aCons m ms) := PAimp (pa_cons ha hr hs) fun σ H Q ⟨G, F, e, d, e', r, hm, q⟩ => by
  obtain ⟨x, e1, h1, hm⟩ := bind_ok2 hm
  obtain ⟨y, e2, h2, hm⟩ := bind_ok2 hm
  cases hm
  exact ⟨G, F, e, x, e1, r, h1, fun v F1 H1 n1 hd => ⟨G, F1, e1, y, e2, n1.r, h2, fun vs F2 H2 n2 hds => q (v :: vs) F2 H2 (n1.trans n2) (.cons (hd.nx n2) hds)⟩⟩

/-! ### the rules -/
theorem pn_op {op : Operator} {r : R2} {g : D → D → Rs Ce} {ma mb : M Hd} (ho : OpR X (binaryOp op) r) (hs : Snd2 X.K r g) (ha : PH X ex ma) (hb : PH X ey mb) : PN X (.BinOp ex op ey pos) (m2 g ma mb) := PEimp (pe_op ho ha hb) fun σ H Q h => op2 hs h
theorem pn_cmp {op : CmpOp} {r : R2} {g : D → D → Rs Ce} {ma mb : M Hd} (ho : OpR X (compareOp op) r) (hs : Snd2 X.K r g) (hm : behindInMarks op ey = false) (ha : PH X ex ma) (hb : PH X ey mb) : PN X (.Compare ex [op] [ey] pos) (m2 g ma mb) := PEimp (pe_cmpR ho ha hb hm) fun σ H Q h => op2 hs h
def mBool (m : M Ce) : M Bool := fun e => (m e).bind fun p => match p.1 with
  | .f (.bool b) => .ok (b, p.2)
  | _ => .no
theorem mBool_ok {m : M Ce} {e e' : En} {b : Bool} (h : mBool m e = .ok (b, e')) : m e = .ok (.f (.bool b), e') := by
  obtain ⟨c, e1, h1, h2⟩ := bind_ok2 h
  simp only at h2
  split at h2
  · cases h2
    exact h1
  · cases h2
theorem bool_test {m : M Ce} {σ : L2.St} {H : Hp} {Q : Bool → Hp → Prop} (h : tT K (mBool m) σ H Q) : tN K m σ H fun x H' => ∃ k, x = .bl k ∧ Q k H' := by
  obtain ⟨G, F, e, b, e', r, hm, q⟩ := h
  exact ⟨G, F, e, _, e', r, mBool_ok hm, fun v F' H' n hn => ⟨b, hn.fz.bool_inv, q F' H' n⟩⟩
theorem ptd_cmp {op : CmpOp} {r : R2} {g : D → D → Rs Ce} {ma mb : M Hd} (ho : OpR X (compareOp op) r) (hs : Snd2 X.K r g) (hm : behindInMarks op ey = false) (ha : PH X ex ma) (hb : PH X ey mb) : PTd X (.Compare ex [op] [ey] pos) (mBool (m2 g ma mb)) :=
  PTimp (pt_cmpR ho ha hb hm) fun σ H Q h => op2 hs (bool_test h)
theorem pn_un {op : UnaryOp} {r : V → Hp → VK → Prop} {g : D → Rs Ce} {ma : M Hd} (ho : UnR X (unaryOp op) r) (hs : Snd1 X.K r g) (ha : PH X ex ma) : PN X (.UnaryOp op ex pos) (m1 g ma) := PEimp (pe_un ho ha) fun σ H Q h => op1 hs h
theorem pn_ix {r : R2} {g : D → D → Rs Ce} {ma mb : M Hd} (ho : IxR X r) (hs : Snd2 X.K r g) (ha : PH X ex ma) (hb : PH X ey mb) (hp : PlainIx ey) : PN X (.Subscript ex ey pos) (m2 g ma mb) := PEimp (pe_ix ho ha hb hp) fun σ H Q h => op2 hs h
theorem pn_bi {x : Str} {p : Pos} {id : String} {r : List V → Hp → VK → Prop} {g : List D → Rs Ce} {ma : M (List Hd)} (hc : CallR X (.builtin id) r) (hs : SndL X.K r g) (hg : Gl X x) (hm : X.mg x = none) (hv : bootBuiltins x = some (.builtin id)) (ha : PAh X (ex :: es) ma)
    (hn : x ≠ "__name__" := by decide) (hdb : (x == ("__debug__" : Str)) = false := by decide) (he : starEach (ex :: es) X.env = (false, eval ex X.env) :: starEach es X.env := by rfl) (hpl : (backTo pos (starEach es X.env)).any (·.1) = false := by rfl) :
    PN X (.Call (.Name x p) (ex :: es) [] pos) (mL g ma) := PEimp (pe_callB hc hg hm hv ha hn hdb he hpl) fun σ H Q h => opL hs h
theorem pn_ty {x : Str} {p : Pos} {T : String} {r : List V → Hp → VK → Prop} {g : List D → Rs Ce} {ma : M (List Hd)} (hc : CallR X (.type T) r) (hs : SndL X.K r g) (hg : Gl X x) (hm : X.mg x = none) (hv : bootBuiltins x = some (.type T)) (ha : PAh X (ex :: es) ma)
    (hn : x ≠ "__name__" := by decide) (hdb : (x == ("__debug__" : Str)) = false := by decide) (he : starEach (ex :: es) X.env = (false, eval ex X.env) :: starEach es X.env := by rfl) (hpl : (backTo pos (starEach es X.env)).any (·.1) = false := by rfl) :
    PN X (.Call (.Name x p) (ex :: es) [] pos) (mL g ma) := PEimp (pe_callTy hc hg hm hv ha hn hdb he hpl) fun σ H Q h => opL hs h
/-- a module's name for a built-in function (from math import gcd) -/
theorem pn_fun {x : Str} {p : Pos} {id : String} {r : List V → Hp → VK → Prop} {g : List D → Rs Ce} {ma : M (List Hd)} (hc : CallR X (.builtin id) r) (hs : SndL X.K r g) (hg : Gl X x) (hm : X.mg x = some (.builtin id)) (ha : PAh X (ex :: es) ma)
    (hdb : (x == ("__debug__" : Str)) = false := by decide) (he : starEach (ex :: es) X.env = (false, eval ex X.env) :: starEach es X.env := by rfl) (hpl : (backTo pos (starEach es X.env)).any (·.1) = false := by rfl) :
    PN X (.Call (.Name x p) (ex :: es) [] pos) (mL g ma) := PEimp (pe_callBfun hc hg hm ha hdb he hpl) fun σ H Q h => opL hs h
def mTup (ma : M (List D)) : M D := fun e => (ma e).bind fun p => if p.1.length ≤ sizeLine then .ok (.tuple p.1, p.2) else .no
def mLst (ma : M (List D)) : M Ce := fun e => (ma e).bind fun p => if p.1.length ≤ sizeLine then .ok (.l false p.1, p.2) else .no
theorem ite_ok {α : Type} {c : Prop} [Decidable c] {x : Rs α} {a : α} (h : (if c then x else .no) = .ok a) : c ∧ x = .ok a := by
  by_cases hc : c
  · rw [if_pos hc] at h; exact ⟨hc, h⟩
  · rw [if_neg hc] at h; cases h
theorem pf_tup {k : Nat} {ma : M (List D)} (ha : PAd X es ma) : PF X (.Tuple es k pos) (mTup ma) := PEimp (pe_tup ha) fun σ H Q ⟨G, F, e, d, e', r, hm, q⟩ => by
  obtain ⟨ds, e1, h1, hm⟩ := bind_ok2 hm
  obtain ⟨hz, hm⟩ := ite_ok hm
  cases hm
  refine ⟨G, F, e, ds, _, r, h1, fun vs F1 H1 n hd => ⟨by rw [hd.len]; exact hz, fun p hp => ?_⟩⟩
  have go : Go F1 H1 (upd F1 p (.tup vs)) (upd H1 p (.tup vs)) noA := Go.newF n.r.fh hp
  exact q _ _ _ (n.trans (n.r.step go)) (.tup upd_same (hd.mono go.ff))
theorem pn_lst {ma : M (List D)} (ha : PAd X es ma) : PN X (.List es pos) (mLst ma) := PEimp (pe_lst ha) fun σ H Q ⟨G, F, e, d, e', r, hm, q⟩ => by
  obtain ⟨ds, e1, h1, hm⟩ := bind_ok2 hm
  obtain ⟨hz, hm⟩ := ite_ok hm
  cases hm
  refine ⟨G, F, e, ds, _, r, h1, fun vs F1 H1 n hd => ⟨by rw [hd.len]; exact hz, fun p hp => ?_⟩⟩
  have go : Go F1 H1 F1 (upd H1 p (.lst vs)) noA := Go.newO n.r.fh hp
  exact q _ _ _ (n.trans (n.r.step go)) (.inr ⟨rfl, p, _, vs, rfl, n.go.old r.fh hp, ex_none n.r.fh hp, upd_same, rfl, hd⟩)
def mIf {α : Type} (t : M Bool) (a b : M α) : M α := fun e => (t e).bind fun p => if p.1 = true then a p.2 else b p.2
theorem pn_if {t : M Bool} {ma mb : M Ce} (ht : PTd X ez t) (ha : PN X ex ma) (hb : PN X ey mb) : PN X (.IfExp ez ex ey pos) (mIf t ma mb) := PEimp (pe_ifExp ht ha hb) fun σ H Q ⟨G, F, e, c, e', r, hm, q⟩ => by
  obtain ⟨b, e1, h1, hm⟩ := bind_ok2 hm
  refine ⟨G, F, e, b, e1, r, h1, fun F1 H1 n => ?_⟩
  cases b with
  | true => exact ⟨G, F1, e1, c, e', n.r, hm, fun v F' H' n' hn => q v F' H' (n.trans n') (hn.back n.go r.fh)⟩
  | false => exact ⟨G, F1, e1, c, e', n.r, hm, fun v F' H' n' hn => q v F' H' (n.trans n') (hn.back n.go r.fh)⟩
/-! tests -/
def mAnd (a b : M Bool) : M Bool := fun e => (a e).bind fun p => if p.1 = true then b p.2 else .ok (false, p.2)
def mOr (a b : M Bool) : M Bool := fun e => (a e).bind fun p => if p.1 = true then .ok (true, p.2) else b p.2
def mNot (a : M Bool) : M Bool := fun e => (a e).bind fun p => .ok (!p.1, p.2)
theorem pwd_and1 {a : M Bool} (h : PTd X ex a) : PWd X (.BoolOp .And [ex] pos) a := pw_and1 h
theorem pwd_or1 {a : M Bool} (h : PTd X ex a) : PWd X (.BoolOp .Or [ex] pos) a := pw_or1 h
theorem pwd_and {a b : M Bool} (h : PTd X ex a) (hb : PWd X (.BoolOp .And (ey :: es) pos) b) : PWd X (.BoolOp .And (ex :: ey :: es) pos) (mAnd a b) := PWimp (pw_and h hb) fun σ H Q ⟨G, F, e, c, e', r, hm, q⟩ => by
  obtain ⟨k, e1, h1, hm⟩ := bind_ok2 hm
  refine ⟨G, F, e, k, e1, r, h1, fun F1 H1 n => ?_⟩
  cases k with
  | true => exact ⟨G, F1, e1, c, e', n.r, hm, fun F' H' n' => q F' H' (n.trans n')⟩
  | false =>
    cases hm
    exact q F1 H1 n
theorem pwd_or {a b : M Bool} (h : PTd X ex a) (hb : PWd X (.BoolOp .Or (ey :: es) pos) b) : PWd X (.BoolOp .Or (ex :: ey :: es) pos) (mOr a b) := PWimp (pw_or h hb) fun σ H Q ⟨G, F, e, c, e', r, hm, q⟩ => by
  obtain ⟨k, e1, h1, hm⟩ := bind_ok2 hm
  refine ⟨G, F, e, k, e1, r, h1, fun F1 H1 n => ?_⟩
  cases k with
  | true =>
    cases hm
    exact q F1 H1 n
  | false => exact ⟨G, F1, e1, c, e', n.r, hm, fun F' H' n' => q F' H' (n.trans n')⟩
theorem ptd_w {a : M Bool} (h : PWd X ex a) : PTd X ex a := h.pt
theorem ptd_not {a : M Bool} (h : PTd X ex a) : PTd X (.UnaryOp .Not ex pos) (mNot a) := PTimp (pt_not h) fun σ H Q ⟨G, F, e, c, e', r, hm, q⟩ => by
  obtain ⟨k, e1, h1, hm⟩ := bind_ok2 hm
  cases hm
  exact ⟨G, F, e, k, _, r, h1, fun F1 H1 n => q F1 H1 n⟩
/-! and, or, not as values: bools (the last of and, or anything) -/
def mAndV (a b : M Ce) : M Ce := fun e => (a e).bind fun p => match p.1 with
  | .f (.bool true) => b p.2
  | .f (.bool false) => .ok (.f (.bool false), p.2)
  | _ => .no
def mOrV (a b : M Ce) : M Ce := fun e => (a e).bind fun p => match p.1 with
  | .f (.bool true) => .ok (.f (.bool true), p.2)
  | .f (.bool false) => b p.2
  | _ => .no
def mNotV (a : M Ce) : M D := fun e => (a e).bind fun p => match p.1 with
  | .f (.bool b) => .ok (.bool (!b), p.2)
  | _ => .no
theorem pn_one {op : BoolOp} {a : M Ce} (h : PN X ex a) : PN X (.BoolOp op [ex] pos) a := pe_one h
theorem pn_and {a b : M Ce} (h : PN X ex a) (hb : PN X (.BoolOp .And (ey :: es) pos) b) : PN X (.BoolOp .And (ex :: ey :: es) pos) (mAndV a b) := PEimp (pe_and h hb) fun σ H Q ⟨G, F, e, c, e', r, hm, q⟩ => by
  obtain ⟨k, e1, h1, hm⟩ := bind_ok2 hm
  refine ⟨G, F, e, k, e1, r, h1, fun v F1 H1 n hn => ?_⟩
  simp only at hm
  split at hm
  · exact ⟨true, hn.fz.bool_inv, ⟨G, F1, e1, c, e', n.r, hm, fun v F' H' n' hn' => q v F' H' (n.trans n') (hn'.back n.go r.fh)⟩⟩
  · cases hm
    exact ⟨false, hn.fz.bool_inv, q _ F1 H1 n (.inl ⟨_, rfl, .bl _⟩)⟩
  · cases hm
theorem pn_or {a b : M Ce} (h : PN X ex a) (hb : PN X (.BoolOp .Or (ey :: es) pos) b) : PN X (.BoolOp .Or (ex :: ey :: es) pos) (mOrV a b) := PEimp (pe_or h hb) fun σ H Q ⟨G, F, e, c, e', r, hm, q⟩ => by
  obtain ⟨k, e1, h1, hm⟩ := bind_ok2 hm
  refine ⟨G, F, e, k, e1, r, h1, fun v F1 H1 n hn => ?_⟩
  simp only at hm
  split at hm
  · cases hm
    exact ⟨true, hn.fz.bool_inv, q _ F1 H1 n (.inl ⟨_, rfl, .bl _⟩)⟩
  · exact ⟨false, hn.fz.bool_inv, ⟨G, F1, e1, c, e', n.r, hm, fun v F' H' n' hn' => q v F' H' (n.trans n') (hn'.back n.go r.fh)⟩⟩
  · cases hm
theorem pf_not {a : M Ce} (h : PN X ex a) : PF X (.UnaryOp .Not ex pos) (mNotV a) := PEimp (pe_not h) fun σ H Q ⟨G, F, e, c, e', r, hm, q⟩ => by
  obtain ⟨k, e1, h1, hm⟩ := bind_ok2 hm
  simp only at hm
  split at hm
  · cases hm
    exact ⟨G, F, e, _, _, r, h1, fun v F1 H1 n hn => ⟨_, hn.fz.bool_inv, q _ F1 H1 n (.bl _)⟩⟩
  · cases hm
/-! truth -/
def D.truth : D → Rs Bool
  | .none => .ok false
  | .bool b => .ok b
  | .int i => .ok (i != 0)
  | .str s => if s.length ≤ sizeLine then .ok ((s.length : Int) != 0) else .no
  | .list ds => .ok (!ds.isEmpty)
  | .ro ds => .ok (!ds.isEmpty)
  | .tuple ds => .ok (!ds.isEmpty)
  | .dict _ _ _ => .no
theorem DnA.emp {vs : List V} {ds : List D} (h : DnA K F vs ds) : vs.isEmpty = ds.isEmpty := by cases h <;> rfl
theorem Vw.tru {b : Bool} {dx : D} {x : V} (h : Vw K F H dx x) (fh : Ex F H) (e : dx.truth = .ok b) : TruV K x H b := by
  cases dx with
  | none => rw [h.none]; cases e; rfl
  | bool b => rw [h.bool]; cases e; rfl
  | int i => rw [h.int]; cases e; rfl
  | str s =>
    rw [h.str]
    obtain ⟨h1, h2⟩ := ite_ok e
    cases h2
    exact ⟨h1, rfl⟩
  | list ds =>
    obtain ⟨a, xs, rfl, h1, h2⟩ := h.list fh
    cases e
    exact .inl ⟨xs, SqL.of h1, by rw [h2.emp]⟩
  | ro ds =>
    obtain ⟨a, xs, rfl, h1, h2⟩ := h.ro fh
    cases e
    exact .inl ⟨xs, h1, by rw [h2.emp]⟩
  | tuple ds =>
    obtain ⟨a, xs, rfl, h1, h2, _⟩ := h.tuple fh
    cases e
    exact .inr (.inl ⟨xs, h1, by rw [h2.emp]⟩)
  | dict ks vs => cases e
def mTru (m : M Hd) : M Bool := fun e => (m e).bind fun p => (p.1.get p.2).bind fun d => d.truth.bind fun b => .ok (b, p.2)
theorem ptd_tru {m : M Hd} (h : PH X ex m) (he : ∀ whole, isTrue ex X.env whole = (do let v ← whole; standAt ex.pos; holding [v] (truthy v)) := by intro _; rfl) : PTd X ex (mTru m) := PTimp (pt_truth h he) fun σ H Q ⟨G, F, e, c, e', r, hm, q⟩ => by
  obtain ⟨k, e1, h1, hm⟩ := bind_ok2 hm
  obtain ⟨d, h2, hm⟩ := Rs.bind_eq hm
  obtain ⟨b, h3, hm⟩ := Rs.bind_eq hm
  cases hm
  exact ⟨G, F, e, k, _, r, h1, fun v F1 H1 n hn => ⟨_, (hn.vw n.r h2).tru n.r.fh h3, q F1 H1 n⟩⟩
/-! chains -/
def mChain (g g' : D → D → Rs Ce) (ma mb mc : M Hd) : M Ce := fun e => (ma e).bind fun p => (mb p.2).bind fun q => (p.1.get q.2).bind fun x => (q.1.get q.2).bind fun y => (g x y).bind fun c => match c with
  | .f (.bool true) => (mc q.2).bind fun z => (q.1.get z.2).bind fun y' => (z.1.get z.2).bind fun w => (g' y' w).bind fun c' => .ok (c', z.2)
  | .f (.bool false) => .ok (.f (.bool false), q.2)
  | _ => .no
theorem opC {r r' : R2} {g g' : D → D → Rs Ce} (hs : Snd2 K r g) (hs' : Snd2 K r' g') {ma mb mc : M Hd} {σ : L2.St} {H : Hp} {Q : VK} (h : tN K (mChain g g' ma mb mc) σ H Q) : tChain r r' (tH K ma) (tH K mb) (tH K mc) σ H Q := by
  obtain ⟨G, F, e, c, e', rr, hm, q⟩ := h
  obtain ⟨x, e1, h1, hm⟩ := bind_ok2 hm
  obtain ⟨y, e2, h2, hm⟩ := bind_ok2 hm
  obtain ⟨dx, h3, hm⟩ := Rs.bind_eq hm
  obtain ⟨dy, h4, hm⟩ := Rs.bind_eq hm
  obtain ⟨c', h5, hm⟩ := Rs.bind_eq hm
  refine ⟨G, F, e, x, e1, rr, h1, fun vx F1 H1 n1 hx => ⟨G, F1, e1, y, e2, n1.r, h2, fun vy F2 H2 n2 hy => ?_⟩⟩
  refine hs F2 H2 vx vy dx dy c' _ n2.r.fh ((hx.nx n2).vw n2.r h3) (hy.vw n2.r h4) h5 fun v F' H' go nat => ?_
  have n12 := n1.trans n2
  have n3 := n2.r.step go
  simp only at hm
  split at hm
  · obtain ⟨z, e3, h6, hm⟩ := bind_ok2 hm
    obtain ⟨dy', h7, hm⟩ := Rs.bind_eq hm
    obtain ⟨dz, h8, hm⟩ := Rs.bind_eq hm
    obtain ⟨c2, h9, hm⟩ := Rs.bind_eq hm
    cases hm
    refine ⟨true, nat.fz.bool_inv, ⟨G, F', e2, z, e3, n3.r, h6, fun vz F4 H4 n4 hz => ?_⟩⟩
    refine hs' F4 H4 vy vz dy' dz c Q n4.r.fh (((hy.nx n3).nx n4).vw n4.r h7) (hz.vw n4.r h8) h9 fun v2 F5 H5 go5 nat5 => ?_
    have nn := (n12.trans n3).trans n4
    exact q v2 F5 H5 (nn.trans (n4.r.step go5)) (nat5.back nn.go rr.fh)
  · cases hm
    exact ⟨false, nat.fz.bool_inv, q _ F' H' (n12.trans n3) (.inl ⟨_, rfl, .bl _⟩)⟩
  · cases hm
theorem pn_chain {op op' : CmpOp} {r r' : R2} {g g' : D → D → Rs Ce} {ma mb mc : M Hd} (ho : OpR X (compareOp op) r) (hs : Snd2 X.K r g) (ho' : OpR X (compareOp op') r') (hs' : Snd2 X.K r' g') (ha : PH X ex ma) (hb : PH X ey mb) (hc : PH X ez mc)
    (hm : lastMarks [op, op'] [ey, ez] = false := by with_unfolding_all rfl) : PN X (.Compare ex [op, op'] [ey, ez] pos) (mChain g g' ma mb mc) := PEimp (pe_chain ho ho' ha hb hc hm) fun σ H Q h => opC hs hs' h
theorem ptd_chain {op op' : CmpOp} {r r' : R2} {g g' : D → D → Rs Ce} {ma mb mc : M Hd} (ho : OpR X (compareOp op) r) (hs : Snd2 X.K r g) (ho' : OpR X (compareOp op') r') (hs' : Snd2 X.K r' g') (ha : PH X ex ma) (hb : PH X ey mb) (hc : PH X ez mc)
    (hm : lastMarks [op, op'] [ey, ez] = false := by with_unfolding_all rfl) : PTd X (.Compare ex [op, op'] [ey, ez] pos) (mBool (mChain g g' ma mb mc)) := PTimp (pt_chain ho ho' ha hb hc hm) fun σ H Q h => opC hs hs' (bool_test h)
end
end DL

namespace DL
open PySem L2 PyProof.Rows

/-! ### equality of data -/
mutual
def D.toPy : D → PyData
  | .none => .none
  | .bool b => .bool b
  | .int i => .int i
  | .str s => .str s
  | .list ds => .list (D.toPyA ds)
  | .ro ds => .list (D.toPyA ds)
  | .tuple ds => .tuple (D.toPyA ds)
  | .dict _ _ _ => .dict []
def D.toPyA : List D → List PyData
  | [] => []
  | d :: ds => D.toPy d :: D.toPyA ds
end
mutual
/-- data without dicts, its texts of true signs, nested so deep at most -/
def D.pl : Nat → D → Bool
  | _, .none => true
  | _, .bool _ => true
  | _, .int _ => true
  | _, .str s => s.cps.all (· < 0x110000)
  | n, .list ds => D.plA n ds
  | n, .ro ds => D.plA n ds
  | n, .tuple ds => D.plA n ds
  | _, .dict _ _ _ => false
def D.plA : Nat → List D → Bool
  | _, [] => true
  | n, d :: ds => (match n with
    | 0 => false
    | n + 1 => D.pl n d) && D.plA n ds
end
mutual
def D.eqb : D → D → Bool
  | .none, .none => true
  | .bool a, .bool b => a == b
  | .bool a, .int j => (if a then 1 else 0) == j
  | .int i, .bool b => i == (if b then 1 else 0)
  | .int i, .int j => i == j
  | .str x, .str y => x == y
  | .list xs, .list ys => D.eqbA xs ys
  | .list xs, .ro ys => D.eqbA xs ys
  | .ro xs, .list ys => D.eqbA xs ys
  | .ro xs, .ro ys => D.eqbA xs ys
  | .tuple xs, .tuple ys => D.eqbA xs ys
  | _, _ => false
def D.eqbA : List D → List D → Bool
  | [], [] => true
  | x :: xs, y :: ys => D.eqb x y && D.eqbA xs ys
  | _, _ => false
end
section
variable {K : PySem.W.Frag} {F H : Hp}
mutual
theorem Dn.dp : ∀ {v : V} {d : D} {n : Nat}, Dn K F v d → d.pl n = true → Dp K F v d.toPy
  | _, _, _, .non, _ => by unfold D.toPy; exact .non
  | _, _, _, .bl b, _ => by unfold D.toPy; exact .bl b
  | _, _, _, .int i, _ => by unfold D.toPy; exact .int i
  | _, _, _, .str x, _ => by unfold D.toPy; exact .str x
  | _, _, _, .lst h ha, p => by unfold D.toPy; unfold D.pl at p; exact .lst (SqL.of h) (DnA.dp ha p)
  | _, _, _, .ro h ha, p => by unfold D.toPy; unfold D.pl at p; exact .lst h (DnA.dp ha p)
  | _, _, _, .tup h ha, p => by unfold D.toPy; unfold D.pl at p; exact .tup (SqT.of h) (DnA.dp ha p)
  | _, _, _, .dic _ _ _, p => by unfold D.pl at p; cases p
theorem DnA.dp : ∀ {vs : List V} {ds : List D} {n : Nat}, DnA K F vs ds → D.plA n ds = true → DpAll K F vs (D.toPyA ds)
  | _, _, _, .nil, _ => by unfold D.toPyA; exact .nil
  | _, _, 0, .cons h ha, p => by unfold D.plA at p; simp at p
  | _, _, n + 1, .cons h ha, p => by
    unfold D.plA at p
    unfold D.toPyA
    have p' := Bool.and_eq_true_iff.mp p
    exact .cons (Dn.dp h p'.1) (DnA.dp ha p'.2)
end
mutual
theorem dp_mono (e : Ex F H) : ∀ {v : V} {d : PyData}, Dp K F v d → Dp K H v d
  | _, _, .non => .non
  | _, _, .bl b => .bl b
  | _, _, .int i => .int i
  | _, _, .str x => .str x
  | _, _, .lst h ha => .lst (Evl.ex_l e h) (dpA_mono e ha)
  | _, _, .tup h ha => .tup (Evl.ex_t e h) (dpA_mono e ha)
theorem dpA_mono (e : Ex F H) : ∀ {vs : List V} {ds : List PyData}, DpAll K F vs ds → DpAll K H vs ds
  | _, _, .nil => .nil
  | _, _, .cons h ha => .cons (dp_mono e h) (dpA_mono e ha)
end
mutual
theorem D.pl_ok : ∀ {d : D} {n : Nat}, d.pl n = true → d.toPy.canLay0 = true ∧ d.toPy.depth ≤ n + 1
  | .none, _, _ => by simp [D.toPy, PyData.canLay0, PyData.depth]
  | .bool _, _, _ => by simp [D.toPy, PyData.canLay0, PyData.depth]
  | .int _, _, _ => by simp [D.toPy, PyData.canLay0, PyData.depth]
  | .str s, _, p => by
    unfold D.pl at p
    unfold D.toPy PyData.canLay0 PyData.depth
    exact ⟨p, Nat.zero_le _⟩
  | .list ds, n, p => by
    unfold D.pl at p
    have := D.plA_ok p
    simp only [D.toPy, PyData.canLay0, PyData.depth]
    exact ⟨this.1, by have := this.2; omega⟩
  | .ro ds, n, p => by
    unfold D.pl at p
    have := D.plA_ok p
    simp only [D.toPy, PyData.canLay0, PyData.depth]
    exact ⟨this.1, by have := this.2; omega⟩
  | .tuple ds, n, p => by
    unfold D.pl at p
    have := D.plA_ok p
    simp only [D.toPy, PyData.canLay0, PyData.depth]
    exact ⟨this.1, by have := this.2; omega⟩
  | .dict _ _ _, _, p => by unfold D.pl at p; cases p
theorem D.plA_ok : ∀ {ds : List D} {n : Nat}, D.plA n ds = true → PyData.canLayAll0 (D.toPyA ds) = true ∧ PyData.depthAll (D.toPyA ds) ≤ n
  | [], n, _ => by simp [D.toPyA, PyData.canLayAll0, PyData.depthAll]
  | d :: ds, 0, p => by unfold D.plA at p; simp at p
  | d :: ds, n + 1, p => by
    unfold D.plA at p
    have p' := Bool.and_eq_true_iff.mp p
    have h1 := D.pl_ok p'.1
    have h2 := D.plA_ok p'.2
    simp only [D.toPyA, PyData.canLayAll0, PyData.depthAll, h1.1, h2.1, Bool.and_self, true_and]
    omega
end
mutual
theorem D.eqb_py : ∀ {x y : D} {n m : Nat}, x.pl n = true → y.pl m = true → PyData.eqv x.toPy y.toPy = D.eqb x y
  | x, y, n, m, hx, hy => by
    cases x <;> cases y <;> first
      | (unfold D.pl at hx; exact absurd hx (by decide))
      | (unfold D.pl at hy; exact absurd hy (by decide))
      | (simp only [D.toPy, PyData.eqv, D.eqb]; done)
      | (simp only [D.toPy, PyData.eqv, D.eqb]; unfold D.pl at hx hy; exact D.eqb_pyA hx hy)
theorem D.eqb_pyA : ∀ {xs ys : List D} {n m : Nat}, D.plA n xs = true → D.plA m ys = true → PyData.eqvAll (D.toPyA xs) (D.toPyA ys) = D.eqbA xs ys
  | [], [], _, _, _, _ => by simp only [D.toPyA, PyData.eqvAll, D.eqbA]
  | [], y :: ys, _, _, _, _ => by simp only [D.toPyA, PyData.eqvAll, D.eqbA]
  | x :: xs, [], _, _, _, _ => by simp only [D.toPyA, PyData.eqvAll, D.eqbA]
  | x :: xs, y :: ys, 0, _, hx, _ => by unfold D.plA at hx; simp at hx
  | x :: xs, y :: ys, _ + 1, 0, _, hy => by unfold D.plA at hy; simp at hy
  | x :: xs, y :: ys, n + 1, m + 1, hx, hy => by
    unfold D.plA at hx hy
    have hx' := Bool.and_eq_true_iff.mp hx
    have hy' := Bool.and_eq_true_iff.mp hy
    simp only [D.toPyA, PyData.eqvAll, D.eqbA]
    rw [D.eqb_py hx'.1 hy'.1, D.eqb_pyA hx'.2 hy'.2]
end
theorem Vw.dp {v : V} {d : D} (h : Vw K F H d v) (fh : Ex F H) {n : Nat} (p : d.pl n = true) : Dp K H v d.toPy := by
  rcases h with h | ⟨a, o, xs, c, rfl, h1, h2, h3, rfl⟩
  · exact dp_mono fh (h.dp p)
  · cases c with
    | f d => exact h2.elim
    | l q ds =>
      have h2' : o = .lst xs := h2
      subst h2'
      simp only [Ce.d] at p ⊢
      unfold D.pl at p
      unfold D.toPy
      exact .lst (SqL.of h1) (dpA_mono fh (DnA.dp h3 p))
    | k q t ks vs =>
      simp only [Ce.d] at p
      unfold D.pl at p
      cases p
end
/-! plain scalars by themselves -/
def D.sc : D → D → Bool
  | .int _, .int _ => true | .str _, .str _ => true | .bool _, .bool _ => true | .none, .none => true | _, _ => false
def eqD (x y : D) : Rs Ce := if (x.sc y || (x.pl 60 && y.pl 60)) = true then .ok (.f (.bool (D.eqb x y))) else .no
def neD (x y : D) : Rs Ce := if (x.sc y || (x.pl 60 && y.pl 60)) = true then .ok (.f (.bool (!D.eqb x y))) else .no
def rEqA (K : PySem.W.Frag) : R2 := fun x y H Q => rEq x y H Q ∨ rEqD K x y H Q
def rNeA (K : PySem.W.Frag) : R2 := fun x y H Q => rNe x y H Q ∨ rNeD K x y H Q
theorem op_eqA {X : Cx} (hu : X.A.units + 64 < cLine) : OpR X (compareOp .Eq) (rEqA X.K) := op_eq.or (op_eqD hu)
theorem op_neA {X : Cx} (hu : X.A.units + 64 < cLine) : OpR X (compareOp .NotEq) (rNeA X.K) := op_ne.or (op_neD hu)
section
variable {K : PySem.W.Frag} {F H : Hp}
/-- a mere value comes -/
theorem ret1 {c : Ce} {v : V} {d : D} {Q : VK} (fh : Ex F H) (hd : Dn K F v d) (hc : c = .f d) (q : ∀ v F' H', Go F H F' H' noA → NAt K H F' H' c v → Q v H') : Q v H := q v F H (Go.refl fh) (.inl ⟨d, hc, hd⟩)
theorem shaped_pl {d : D} (h : d.pl 60 = true) : SeqAt.shaped d.toPy = true := by
  have := D.pl_ok h
  show (d.toPy.canLay0 && decide (d.toPy.depth ≤ 64)) = true
  rw [this.1, decide_eq_true (show d.toPy.depth ≤ 64 by omega)]
  rfl
theorem dec_vint (i j : Int) : decide (V.int i = V.int j) = (i == j) := dec_int
theorem sc_eq {dx dy : D} {x y : V} (h : dx.sc dy = true) (hx : Vw K F H dx x) (hy : Vw K F H dy y) : scal x y = true ∧ decide (x = y) = D.eqb dx dy := by
  cases dx <;> cases dy <;> first
    | (cases h; done)
    | skip
  · rw [hx.none, hy.none]
    refine ⟨rfl, ?_⟩
    unfold D.eqb
    rfl
  · rw [hx.bool, hy.bool]
    refine ⟨rfl, ?_⟩
    unfold D.eqb
    exact dec_bl
  · rw [hx.int, hy.int]
    refine ⟨rfl, ?_⟩
    unfold D.eqb
    exact dec_int
  · rw [hx.str, hy.str]
    refine ⟨rfl, ?_⟩
    unfold D.eqb
    exact dec_str
theorem snd_eq : Snd2 K (rEqA K) eqD := fun F H x y dx dy c Q fh hx hy hg q => by
  obtain ⟨h1, hg⟩ := ite_ok hg
  have hc : c = .f (.bool (D.eqb dx dy)) := (Rs.ok.inj hg).symm
  by_cases h : dx.sc dy = true
  · obtain ⟨e1, e2⟩ := sc_eq h hx hy
    refine .inl ⟨e1, ?_⟩
    rw [e2]
    exact ret1 fh (.bl _) hc q
  · have h2 : (dx.pl 60 && dy.pl 60) = true := by simpa [h] using h1
    obtain ⟨p1, p2⟩ := Bool.and_eq_true_iff.mp h2
    refine .inr ⟨_, _, hx.dp fh p1, hy.dp fh p2, shaped_pl p1, shaped_pl p2, ?_⟩
    rw [D.eqb_py p1 p2]
    exact ret1 fh (.bl _) hc q
theorem snd_ne : Snd2 K (rNeA K) neD := fun F H x y dx dy c Q fh hx hy hg q => by
  obtain ⟨h1, hg⟩ := ite_ok hg
  have hc : c = .f (.bool (!D.eqb dx dy)) := (Rs.ok.inj hg).symm
  by_cases h : dx.sc dy = true
  · obtain ⟨e1, e2⟩ := sc_eq h hx hy
    refine .inl ⟨e1, ?_⟩
    rw [e2]
    exact ret1 fh (.bl _) hc q
  · have h2 : (dx.pl 60 && dy.pl 60) = true := by simpa [h] using h1
    obtain ⟨p1, p2⟩ := Bool.and_eq_true_iff.mp h2
    refine .inr ⟨_, _, hx.dp fh p1, hy.dp fh p2, shaped_pl p1, shaped_pl p2, ?_⟩
    rw [D.eqb_py p1 p2]
    exact ret1 fh (.bl _) hc q

/-! ### arithmetic -/
def addD : D → D → Rs Ce
  | .int i, .int j => .ok (.f (.int (i + j)))
  | .str a, .str b => if a.length + b.length ≤ sizeLine then .ok (.f (.str (a ++ b))) else .no
  | .tuple a, .tuple b => if a.length + b.length ≤ sizeLine then .ok (.f (.tuple (a ++ b))) else .no
  | .list a, .list b => if a.length + b.length ≤ sizeLine then .ok (.l false (a ++ b)) else .no
  | _, _ => .no
def rAddA (K : PySem.W.Frag) : R2 := fun x y H Q => rI0 (fun i j => .int (i + j)) x y H Q ∨ (∃ i j, x = .str i ∧ y = .str j ∧ i.length + j.length ≤ sizeLine ∧ Q (.str (i ++ j)) H) ∨ rCatA K x y H Q ∨ rCat x y H Q
theorem op_addA {X : Cx} : OpR X (binaryOp .Add) (rAddA X.K) := op_add.or (op_add_str.or (op_catA.or op_cat))
theorem snd_add : Snd2 K (rAddA K) addD := fun F H x y dx dy c Q fh hx hy hg q => by
  cases dx <;> cases dy <;> first
    | (cases hg; done)
    | skip
  · rename_i i j
    cases hg
    rw [hx.int, hy.int]
    exact .inl ⟨i, j, rfl, rfl, ret1 fh (.int _) rfl q⟩
  · rename_i i j
    obtain ⟨h1, hg⟩ := ite_ok hg
    cases hg
    rw [hx.str, hy.str]
    exact .inr (.inl ⟨i, j, rfl, rfl, h1, ret1 fh (.str _) rfl q⟩)
  · obtain ⟨h1, hg⟩ := ite_ok hg
    cases hg
    obtain ⟨a, xs, rfl, h3, h4⟩ := hx.list fh
    obtain ⟨b, ys, rfl, h5, h6⟩ := hy.list fh
    refine .inr (.inr (.inr ⟨a, b, xs, ys, rfl, rfl, h3, h5, by rw [h4.len, h6.len]; exact h1, fun p hp => ?_⟩))
    exact q _ F _ (Go.newO fh hp) (.inr ⟨rfl, p, _, _, rfl, hp, ex_none fh hp, upd_same, rfl, h4.app h6⟩)
  · obtain ⟨h1, hg⟩ := ite_ok hg
    cases hg
    obtain ⟨a, xs, rfl, h3, h4, h4d⟩ := hx.tuple fh
    obtain ⟨b, ys, rfl, h5, h6, h6d⟩ := hy.tuple fh
    refine .inr (.inr (.inl ⟨a, b, xs, ys, rfl, rfl, h3, h5, by rw [h4.len, h6.len]; exact h1, fun e => ?_, fun e1 e2 => ?_, fun _ _ p hp => ?_⟩))
    · subst e
      cases h4
      exact ret1 fh h6d rfl q
    · subst e2
      cases h6
      refine ret1 fh h4d ?_ q
      rw [List.append_nil]
    · have go : Go F H (upd F p (.tup (xs ++ ys))) (upd H p (.tup (xs ++ ys))) noA := Go.newF fh hp
      exact q _ _ _ go (.inl ⟨_, rfl, .tup upd_same ((h4.app h6).mono go.ff)⟩)
def subD : D → D → Rs Ce
  | .int i, .int j => .ok (.f (.int (i - j)))
  | _, _ => .no
theorem snd_sub : Snd2 K (rI0 fun i j => .int (i - j)) subD := fun F H x y dx dy c Q fh hx hy hg q => by
  cases dx <;> cases dy <;> first
    | (cases hg; done)
    | skip
  rename_i i j
  cases hg
  rw [hx.int, hy.int]
  exact ⟨i, j, rfl, rfl, ret1 fh (.int _) rfl q⟩
/-- a product that is not too large -/
def MulOk (i j : Int) : Prop := (-(2 ^ 64) < i ∧ i < 2 ^ 64) ∨ (-(2 ^ 64) < j ∧ j < 2 ^ 64) ∨ (i.natAbs < 2 ^ 400000 ∧ j.natAbs < 2 ^ 400000)
noncomputable instance (i j : Int) : Decidable (MulOk i j) := Classical.propDecidable _
noncomputable def mulD : D → D → Rs Ce
  | .int i, .int j => if MulOk i j then .ok (.f (.int (i * j))) else .no
  | .list ds, .int k => if (-(2 ^ 63) ≤ k ∧ k < 2 ^ 63 ∧ ds.length * k.toNat ≤ sizeLine) then .ok (.l false (List.replicate k.toNat ds).flatten) else .no
  | _, _ => .no
def rMulA : R2 := fun x y H Q => rI CMul (fun i j => .int (i * j)) x y H Q ∨ rI CMulW (fun i j => .int (i * j)) x y H Q ∨ rRep x y H Q
theorem op_mulA {X : Cx} : OpR X (binaryOp .Mult) rMulA := op_mul.or (op_mulW.or op_rep)
theorem DnA.rep {xs : List V} {ds : List D} (h : DnA K F xs ds) : ∀ k : Nat, DnA K F (List.replicate k xs).flatten (List.replicate k ds).flatten
  | 0 => by simpa using DnA.nil
  | k + 1 => by
    rw [List.replicate_succ, List.replicate_succ, List.flatten_cons, List.flatten_cons]
    exact h.app (DnA.rep h k)
theorem mulOk_r {i j : Int} (h : MulOk i j) : CMul i j ∨ CMulW i j := by
  rcases h with h | h | ⟨h1, h2⟩
  · exact .inl (.inl h)
  · exact .inl (.inr h)
  · exact .inr (wide_mul h1 h2 (by decide) (by decide) (by decide))
theorem snd_mul : Snd2 K rMulA mulD := fun F H x y dx dy c Q fh hx hy hg q => by
  cases dx <;> cases dy <;> first
    | (cases hg; done)
    | skip
  · rename_i i j
    obtain ⟨h1, hg⟩ := ite_ok hg
    cases hg
    rw [hx.int, hy.int]
    rcases mulOk_r h1 with h | h
    · exact .inl ⟨i, j, rfl, rfl, h, ret1 fh (.int _) rfl q⟩
    · exact .inr (.inl ⟨i, j, rfl, rfl, h, ret1 fh (.int _) rfl q⟩)
  · rename_i ds k
    obtain ⟨⟨h1, h2, h3⟩, hg⟩ := ite_ok hg
    cases hg
    obtain ⟨a, xs, rfl, h5, h6⟩ := hx.list fh
    rw [hy.int]
    refine .inr (.inr ⟨a, k, xs, rfl, rfl, h5, h1, h2, by rw [h6.len]; exact h3, fun p hp => ?_⟩)
    exact q _ F _ (Go.newO fh hp) (.inr ⟨rfl, p, _, _, rfl, hp, ex_none fh hp, upd_same, rfl, h6.rep _⟩)
def DivOk (j : Int) : Prop := 0 < j ∧ j.natAbs < 2 ^ 8000
noncomputable instance (j : Int) : Decidable (DivOk j) := Classical.propDecidable _
noncomputable def fdivD : D → D → Rs Ce
  | .int i, .int j => if DivOk j then .ok (.f (.int (i / j))) else if j ≠ 0 ∧ j.natAbs < 1073741824 then .ok (.f (.int (i.fdiv j))) else .no
  | _, _ => .no
def rDivA : R2 := fun x y H Q => rI CDivW (fun i j => .int (i / j)) x y H Q ∨ rI CDivN (fun i j => .int (i.fdiv j)) x y H Q
theorem op_fdivA {X : Cx} : OpR X (binaryOp .FloorDiv) rDivA := op_fdivW.or op_fdivN
theorem divOk_w {j : Int} (h : DivOk j) : CDivW 0 j := wide_div h.1 h.2 (by decide) (by decide)
theorem snd_fdiv : Snd2 K rDivA fdivD := fun F H x y dx dy c Q fh hx hy hg q => by
  cases dx <;> cases dy <;> first
    | (cases hg; done)
    | skip
  rename_i i j
  rw [hx.int, hy.int]
  simp only [fdivD] at hg
  by_cases h : DivOk j
  · rw [if_pos h] at hg
    cases hg
    exact .inl ⟨i, j, rfl, rfl, wide_div h.1 h.2 (by decide) (by decide), ret1 fh (.int _) rfl q⟩
  · rw [if_neg h] at hg
    obtain ⟨h1, hg⟩ := ite_ok hg
    cases hg
    exact .inr ⟨i, j, rfl, rfl, h1, ret1 fh (.int _) rfl q⟩
def modD : D → D → Rs Ce
  | .int i, .int j => if 0 < j then .ok (.f (.int (i % j))) else if j ≠ 0 then .ok (.f (.int (i.fmod j))) else .no
  | _, _ => .no
def rModA : R2 := fun x y H Q => rI (fun _ j => 0 < j) (fun i j => .int (i % j)) x y H Q ∨ rI (fun _ j => j ≠ 0) (fun i j => .int (i.fmod j)) x y H Q
theorem op_modA {X : Cx} : OpR X (binaryOp .Mod) rModA := op_mod.or op_modN
theorem snd_mod : Snd2 K rModA modD := fun F H x y dx dy c Q fh hx hy hg q => by
  cases dx <;> cases dy <;> first
    | (cases hg; done)
    | skip
  rename_i i j
  rw [hx.int, hy.int]
  simp only [modD] at hg
  by_cases h : 0 < j
  · rw [if_pos h] at hg
    cases hg
    exact .inl ⟨i, j, rfl, rfl, h, ret1 fh (.int _) rfl q⟩
  · rw [if_neg h] at hg
    obtain ⟨h1, hg⟩ := ite_ok hg
    cases hg
    exact .inr ⟨i, j, rfl, rfl, h1, ret1 fh (.int _) rfl q⟩
def powD : D → D → Rs Ce
  | .int i, .int j => if 0 ≤ j ∧ j ≤ 10000 ∧ i.natAbs < 2 ^ 64 then .ok (.f (.int (i ^ j.toNat))) else .no
  | _, _ => .no
theorem snd_pow : Snd2 K (rI CPow fun i j => .int (i ^ j.toNat)) powD := fun F H x y dx dy c Q fh hx hy hg q => by
  cases dx <;> cases dy <;> first
    | (cases hg; done)
    | skip
  rename_i i j
  obtain ⟨⟨h1, h2, h3⟩, hg⟩ := ite_ok hg
  cases hg
  rw [hx.int, hy.int]
  exact ⟨i, j, rfl, rfl, ⟨h1, by omega, h3⟩, ret1 fh (.int _) rfl q⟩
def negD : D → Rs Ce
  | .int i => .ok (.f (.int (-i)))
  | _ => .no
theorem snd_neg : Snd1 K (rU fun i => .int (-i)) negD := fun F H x dx c Q fh hx hg q => by
  cases dx <;> first
    | (cases hg; done)
    | skip
  rename_i i
  cases hg
  rw [hx.int]
  exact ⟨i, rfl, ret1 fh (.int _) rfl q⟩
/-! ### comparisons of ints (and texts) -/
def ltD : D → D → Rs Ce
  | .int i, .int j => .ok (.f (.bool (decide (i < j))))
  | .str x, .str y => .ok (.f (.bool (decide (x.cps.toList < y.cps.toList))))
  | _, _ => .no
def leD : D → D → Rs Ce
  | .int i, .int j => .ok (.f (.bool (decide (i ≤ j))))
  | _, _ => .no
def gtD : D → D → Rs Ce
  | .int i, .int j => .ok (.f (.bool (decide (j < i))))
  | _, _ => .no
def geD : D → D → Rs Ce
  | .int i, .int j => .ok (.f (.bool (decide (j ≤ i))))
  | _, _ => .no
def rLtA : R2 := fun x y H Q => rI0 (fun i j => .bl (decide (i < j))) x y H Q ∨ (∃ i j, x = .str i ∧ y = .str j ∧ Q (.bl (decide (i.cps.toList < j.cps.toList))) H)
theorem op_ltA {X : Cx} : OpR X (compareOp .Lt) rLtA := op_lt.or op_lt_str
theorem snd_lt : Snd2 K rLtA ltD := fun F H x y dx dy c Q fh hx hy hg q => by
  cases dx <;> cases dy <;> first
    | (cases hg; done)
    | skip
  · rename_i i j
    cases hg
    rw [hx.int, hy.int]
    exact .inl ⟨i, j, rfl, rfl, ret1 fh (.bl _) rfl q⟩
  · rename_i i j
    cases hg
    rw [hx.str, hy.str]
    exact .inr ⟨i, j, rfl, rfl, ret1 fh (.bl _) rfl q⟩
theorem snd_le : Snd2 K (rI0 fun i j => .bl (decide (i ≤ j))) leD := fun F H x y dx dy c Q fh hx hy hg q => by
  cases dx <;> cases dy <;> first
    | (cases hg; done)
    | skip
  rename_i i j
  cases hg
  rw [hx.int, hy.int]
  exact ⟨i, j, rfl, rfl, ret1 fh (.bl _) rfl q⟩
theorem snd_gt : Snd2 K (rI0 fun i j => .bl (decide (j < i))) gtD := fun F H x y dx dy c Q fh hx hy hg q => by
  cases dx <;> cases dy <;> first
    | (cases hg; done)
    | skip
  rename_i i j
  cases hg
  rw [hx.int, hy.int]
  exact ⟨i, j, rfl, rfl, ret1 fh (.bl _) rfl q⟩
theorem snd_ge : Snd2 K (rI0 fun i j => .bl (decide (j ≤ i))) geD := fun F H x y dx dy c Q fh hx hy hg q => by
  cases dx <;> cases dy <;> first
    | (cases hg; done)
    | skip
  rename_i i j
  cases hg
  rw [hx.int, hy.int]
  exact ⟨i, j, rfl, rfl, ret1 fh (.bl _) rfl q⟩
/-! ### is None, is True, is False -/
def D.isN : D → Bool
  | .none => true | _ => false
def D.isB (b : Bool) : D → Bool
  | .bool c => c == b | _ => false
def isD : D → D → Rs Ce
  | x, .none => .ok (.f (.bool x.isN))
  | x, .bool b => .ok (.f (.bool (x.isB b)))
  | _, _ => .no
def isntD : D → D → Rs Ce
  | x, .none => .ok (.f (.bool (!x.isN)))
  | x, .bool b => .ok (.f (.bool (!x.isB b)))
  | _, _ => .no
def rIsA : R2 := fun x y H Q => (y = .non ∧ Q (.bl (decide (x = .non))) H) ∨ ∃ b, y = .bl b ∧ Q (.bl (decide (x = .bl b))) H
def rIsntA : R2 := fun x y H Q => (y = .non ∧ Q (.bl (!decide (x = .non))) H) ∨ ∃ b, y = .bl b ∧ Q (.bl (!decide (x = .bl b))) H
theorem beq_val_bool {X : Cx} {x : V} {v : Value} {b : Bool} (rx : RelV x v) : (v == Value.bool b) = decide (x = V.bl b) := by
  cases x <;> first
    | (obtain ⟨t, rfl⟩ := rx; rw [Bool.eq_iff_iff]; simp; done)
    | (cases rx; rw [Bool.eq_iff_iff]; simp; done)
theorem plain_bool {x : V} {v : Value} {b : Bool} (rx : RelV x v) : plainIs v (.bool b) = true := by
  cases x <;> first
    | (obtain ⟨t, rfl⟩ := rx; rfl)
    | (cases rx; rfl)
theorem op_isB {X : Cx} : OpR X (compareOp .Is) (fun x y H Q => ∃ b, y = .bl b ∧ Q (.bl (decide (x = .bl b))) H) := by
  intro pins s σ H x y v u Q I rx ry h
  obtain ⟨b, rfl, q⟩ := h
  cases (show u = Value.bool b from ry)
  exact wpAny_is_plain (plain_bool rx) ⟨.bl _, H, I, by rw [beq_val_bool (X := X) rx]; rfl, q⟩
theorem op_isntB {X : Cx} : OpR X (compareOp .IsNot) (fun x y H Q => ∃ b, y = .bl b ∧ Q (.bl (!decide (x = .bl b))) H) := by
  intro pins s σ H x y v u Q I rx ry h
  obtain ⟨b, rfl, q⟩ := h
  cases (show u = Value.bool b from ry)
  exact wpAny_isNot_plain (plain_bool rx) ⟨.bl _, H, I, by rw [beq_val_bool (X := X) rx]; rfl, q⟩
theorem op_isA {X : Cx} : OpR X (compareOp .Is) rIsA := op_isN.or op_isB
theorem op_isntA {X : Cx} : OpR X (compareOp .IsNot) rIsntA := op_notN.or op_isntB
theorem Vw.isN {d : D} {v : V} (h : Vw K F H d v) : decide (v = .non) = d.isN := by
  rcases h with h | ⟨a, o, xs, c, rfl, h1, h2, h3, rfl⟩
  · cases h <;> rfl
  · cases c <;> first | exact h2.elim | rfl
theorem Vw.isB {d : D} {v : V} {b : Bool} (h : Vw K F H d v) : decide (v = .bl b) = d.isB b := by
  rcases h with h | ⟨a, o, xs, c, rfl, h1, h2, h3, rfl⟩
  · cases h <;> first | rfl | (rw [Bool.eq_iff_iff]; simp [D.isB])
  · cases c <;> first | exact h2.elim | rfl
theorem snd_is : Snd2 K rIsA isD := fun F H x y dx dy c Q fh hx hy hg q => by
  cases dy <;> first
    | (cases hg; done)
    | skip
  · have hc : c = .f (.bool dx.isN) := (Rs.ok.inj hg).symm
    refine .inl ⟨hy.none, ?_⟩
    rw [hx.isN]
    exact ret1 fh (.bl _) hc q
  · rename_i b
    have hc : c = .f (.bool (dx.isB b)) := (Rs.ok.inj hg).symm
    refine .inr ⟨b, hy.bool, ?_⟩
    rw [hx.isB]
    exact ret1 fh (.bl _) hc q
theorem snd_isnt : Snd2 K rIsntA isntD := fun F H x y dx dy c Q fh hx hy hg q => by
  cases dy <;> first
    | (cases hg; done)
    | skip
  · have hc : c = .f (.bool (!dx.isN)) := (Rs.ok.inj hg).symm
    refine .inl ⟨hy.none, ?_⟩
    rw [hx.isN]
    exact ret1 fh (.bl _) hc q
  · rename_i b
    have hc : c = .f (.bool (!dx.isB b)) := (Rs.ok.inj hg).symm
    refine .inr ⟨b, hy.bool, ?_⟩
    rw [hx.isB]
    exact ret1 fh (.bl _) hc q
/-! ### subscripts -/
def ixD : D → D → Rs Ce
  | .tuple ds, .int i => match atI ds i with
    | some d => .ok (.f d)
    | _ => .no
  | .list ds, .int i => match atI ds i with
    | some d => .ok (.f d)
    | _ => .no
  | .ro ds, .int i => match atI ds i with
    | some d => .ok (.f d)
    | _ => .no
  | .str s, .int i => if s.length ≤ sizeLine then (match atI s.cps.toList i with
    | some c => .ok (.f (.str ⟨#[c]⟩))
    | _ => .no) else .no
  | _, _ => .no
theorem DnA.atI {xs : List V} {ds : List D} {i : Int} {d : D} (h : DnA K F xs ds) (e : L2.atI ds i = some d) : ∃ v, L2.atI xs i = some v ∧ Dn K F v d := by
  unfold L2.atI at e ⊢
  rw [h.len]
  cases q : ixN ds.length i with
  | none => rw [q] at e; cases e
  | some j =>
    rw [q] at e
    exact h.get e
theorem snd_ix : Snd2 K (rIx K) ixD := fun F H x y dx dy c Q fh hx hy hg q => by
  cases dx <;> cases dy <;> first
    | (cases hg; done)
    | skip
  · rename_i s i
    obtain ⟨h1, hg⟩ := ite_ok hg
    split at hg
    · rename_i ch h2
      cases hg
      rw [hx.str, hy.int]
      exact .inr (.inr ⟨s, i, ch, rfl, rfl, h1, h2, ret1 fh (.str _) rfl q⟩)
    · cases hg
  · rename_i ds i
    simp only [ixD] at hg
    split at hg
    · rename_i d h2
      cases hg
      obtain ⟨a, xs, rfl, h3, h4⟩ := hx.list fh
      obtain ⟨v, h5, h6⟩ := h4.atI h2
      rw [hy.int]
      exact .inl ⟨a, xs, i, v, rfl, rfl, SqL.of h3, h5, ret1 fh h6 rfl q⟩
    · cases hg
  · rename_i ds i
    simp only [ixD] at hg
    split at hg
    · rename_i d h2
      cases hg
      obtain ⟨a, xs, rfl, h3, h4, _⟩ := hx.tuple fh
      obtain ⟨v, h5, h6⟩ := h4.atI h2
      rw [hy.int]
      exact .inr (.inl ⟨a, xs, i, v, rfl, rfl, h3, h5, ret1 fh h6 rfl q⟩)
    · cases hg
  · rename_i ds i
    simp only [ixD] at hg
    split at hg
    · rename_i d h2
      cases hg
      obtain ⟨a, xs, rfl, h3, h4⟩ := hx.ro fh
      obtain ⟨v, h5, h6⟩ := h4.atI h2
      rw [hy.int]
      exact .inl ⟨a, xs, i, v, rfl, rfl, h3, h5, ret1 fh h6 rfl q⟩
    · cases hg
/-! ### built-in functions -/
theorem VwA.one {ds : List D} {xs : List V} {d : D} (h : VwA K F H [d] xs) : ∃ x, xs = [x] ∧ Vw K F H d x := by
  cases h with
  | cons h t => cases t; exact ⟨_, rfl, h⟩
theorem VwA.two {d d' : D} {xs : List V} (h : VwA K F H [d, d'] xs) : ∃ x y, xs = [x, y] ∧ Vw K F H d x ∧ Vw K F H d' y := by
  cases h with
  | cons h t => cases t with
    | cons h' t' => cases t'; exact ⟨_, _, rfl, h, h'⟩
def lenD : List D → Rs Ce
  | [.str s] => if s.length ≤ sizeLine then .ok (.f (.int s.length)) else .no
  | [.list ds] => .ok (.f (.int ds.length))
  | [.ro ds] => .ok (.f (.int ds.length))
  | [.tuple ds] => .ok (.f (.int ds.length))
  | [.dict _ ks _] => .ok (.f (.int ks.length))
  | _ => .no
theorem dcO_len {t : Bool} {o : HO} {ks : List D} {xs : List V} (h : DcO t o ks xs) : ks.length = xs.length := by
  rcases h with ⟨_, kvs, _, rfl, rfl⟩ | ⟨_, kvs, _, rfl, rfl⟩ <;> simp
/-- int(x) -/
def intD : List D → Rs Ce
  | [.int i] => .ok (.f (.int i))
  | [.bool b] => .ok (.f (.int (if b then 1 else 0)))
  | _ => .no
theorem snd_int : SndL K (fun xs H Q => (∃ i, xs = [.int i] ∧ Q (.int i) H) ∨ ∃ k, xs = [.bl k] ∧ Q (.int (if k then 1 else 0)) H) intD := fun F H xs ds c Q fh hx hg q => by
  unfold intD at hg
  split at hg
  · cases hg
    obtain ⟨x, rfl, h⟩ := hx.one (ds := [])
    rw [h.int]
    exact .inl ⟨_, rfl, ret1 fh (.int _) rfl q⟩
  · cases hg
    obtain ⟨x, rfl, h⟩ := hx.one (ds := [])
    rw [h.bool]
    exact .inr ⟨_, rfl, ret1 fh (.int _) rfl q⟩
  · cases hg
def absD : List D → Rs Ce
  | [.int i] => .ok (.f (.int (if i < 0 then -i else i)))
  | _ => .no
theorem snd_abs : SndL K (fun xs H Q => ∃ i, xs = [.int i] ∧ Q (.int (if i < 0 then -i else i)) H) absD := fun F H xs ds c Q fh hx hg q => by
  unfold absD at hg
  split at hg
  · cases hg
    obtain ⟨x, rfl, h⟩ := hx.one (ds := [])
    rw [h.int]
    exact ⟨_, rfl, ret1 fh (.int _) rfl q⟩
  · cases hg
def gcdD : List D → Rs Ce
  | [.int a, .int b] => .ok (.f (.int ((Nat.gcd a.natAbs b.natAbs : Nat) : Int)))
  | _ => .no
theorem snd_gcd : SndL K rGcd gcdD := fun F H xs ds c Q fh hx hg q => by
  unfold gcdD at hg
  split at hg
  · cases hg
    obtain ⟨x, y, rfl, h, h'⟩ := hx.two
    rw [h.int, h'.int]
    exact ⟨_, _, rfl, ret1 fh (.int _) rfl q⟩
  · cases hg
def lcmD : List D → Rs Ce
  | [.int a, .int b] => if a.natAbs < 2 ^ 64 ∧ b.natAbs < 2 ^ 64 then .ok (.f (.int ((Nat.lcm a.natAbs b.natAbs : Nat) : Int))) else .no
  | _ => .no
def rLcm : List V → Hp → VK → Prop := fun vs H Q => ∃ a b : Int, vs = [.int a, .int b] ∧ a.natAbs < 2 ^ 64 ∧ b.natAbs < 2 ^ 64 ∧ Q (.int ((Nat.lcm a.natAbs b.natAbs : Nat) : Int)) H
theorem cr_lcm {X : Cx} : CallR X (.builtin "math.lcm") rLcm := by
  intro pins s σ H vs us Q I r h
  obtain ⟨a, b, rfl, h1, h2, q⟩ := h
  obtain ⟨t, u, rfl⟩ := Vals.int2 r
  exact PySem.W.mc_lcm h1 h2 fun _ => ⟨.int _, H, I.tok _, ⟨_, rfl⟩, q⟩
theorem snd_lcm : SndL K rLcm lcmD := fun F H xs ds c Q fh hx hg q => by
  unfold lcmD at hg
  split at hg
  · obtain ⟨⟨h1, h2⟩, hg⟩ := ite_ok hg
    cases hg
    obtain ⟨x, y, rfl, h, h'⟩ := hx.two
    rw [h.int, h'.int]
    exact ⟨_, _, rfl, h1, h2, ret1 fh (.int _) rfl q⟩
  · cases hg
end
end DL

namespace DL
open PySem L2 PyProof.Rows

section
variable {X : Cx}
theorem PSimp {st : Stmt} {t t' : TS} (h : PS X st t) (hi : ∀ D σ H, t' D σ H → t D σ H) : PS X st t' := ⟨fun pins s σ H D I q => h.run pins s σ H D I (hi D σ H q)⟩
theorem PSsimp {sts : List Stmt} {t t' : TS} (h : PSs X sts t) (hi : ∀ D σ H, t' D σ H → t D σ H) : PSs X sts t' := ⟨fun pins s σ H D I q => h.run pins s σ H D I (hi D σ H q)⟩
theorem PGimp {tg : Expr} {t t' : TG} (h : PG X tg t) (hi : ∀ v σ H Q, t' v σ H Q → t v σ H Q) : PG X tg t' := ⟨fun pins s σ H v u Q I r q => h.run pins s σ H v u Q I r (hi v σ H Q q)⟩
end
/-! ### statements -/
/-- a result: frozen data, or an object that is new since the entry -/
def RtA (K : PySem.W.Frag) (G : Bs) (F' H' : Hp) (c : Ce) (v : V) : Prop :=
  (∃ d, c = .f d ∧ Dn K F' v d) ∨ (c.io = false ∧ ∃ a o xs, v = .ref a ∧ G.H a = none ∧ F' a = none ∧ H' a = some o ∧ CeO o c xs ∧ DnA K F' xs c.mem)
def Post (K : PySem.W.Frag) (G : Bs) (F : Hp) (E : Ends) : Out → Prop
  | .nx e' => ∀ F' H' σ', R K G F' H' σ' e' → Ex F F' → E.nx σ' H'
  | .bk e' => ∀ F' H' σ', R K G F' H' σ' e' → Ex F F' → E.bk σ' H'
  | .ct e' => ∀ F' H' σ', R K G F' H' σ' e' → Ex F F' → E.ct σ' H'
  | .rt c e' => ∀ v F' H' σ', R K G F' H' σ' e' → Ex F F' → RtA K G F' H' c v → E.rt v H'
  | _ => False
def tS (K : PySem.W.Frag) (m : En → Out) : TS := fun E σ H => ∃ G F e, R K G F H σ e ∧ Post K G F E (m e)
abbrev PDS (X : Cx) (st : Stmt) (m : En → Out) : Prop := PS X st (tS X.K m)
abbrev PDs (X : Cx) (sts : List Stmt) (m : En → Out) : Prop := PSs X sts (tS X.K m)
/-- a step of a statement, its expression's outcome first -/
def onR {α : Type} (r : Rs (α × En)) (f : α → En → Out) : Out := match r with
  | .ok (a, e) => f a e
  | .ex n ds => .ex n ds
  | .no => .no
@[simp] theorem onR_ok {α : Type} (a : α) (e : En) (f : α → En → Out) : onR (.ok (a, e)) f = f a e := rfl
@[simp] theorem onR_ex {α : Type} (n : String) (ds : List D) (f : α → En → Out) : onR (.ex n ds) f = .ex n ds := rfl
@[simp] theorem onR_no {α : Type} (f : α → En → Out) : onR .no f = .no := rfl
def ioAt (e : En) (i : Nat) : Bool := match e[i]? with
  | some (some c) => c.io
  | _ => false
section
variable {X : Cx} {K : PySem.W.Frag} {G : Bs} {F F1 H H1 : Hp} {σ : L2.St} {e e1 : En} {E : Ends} {v : V} {c : Ce} {d : D} {i : Nat} {a : Addr}
theorem Post.ex {o : Out} (h : Post K G F E o) (x : Ex F F1) : Post K G F1 E o := by
  cases o with
  | nx e' => exact fun F' H' σ' r q => h F' H' σ' r (x.trans q)
  | bk e' => exact fun F' H' σ' r q => h F' H' σ' r (x.trans q)
  | ct e' => exact fun F' H' σ' r q => h F' H' σ' r (x.trans q)
  | rt c e' => exact fun v F' H' σ' r q => h v F' H' σ' r (x.trans q)
  | ex n ds => exact h
  | no => exact h
theorem onR_inv {α : Type} {r : Rs (α × En)} {f : α → En → Out} (h : Post K G F E (onR r f)) : ∃ a e', r = .ok (a, e') ∧ Post K G F E (f a e') := by
  cases r with
  | ok p => exact ⟨p.1, p.2, rfl, h⟩
  | ex n ds => exact h.elim
  | no => exact h.elim
/-- a value is stored in a slot -/
theorem R.set (r : R K G F H σ e) (hi : ioAt e i = false) (hv : HAt K G σ F H e (.v c) v) : R K G F H (σ.set i (some v)) (e.set i (some c)) := by
  have hio : ∀ c', e[i]? = some (some c') → c'.io = false := fun c' h => by
    unfold ioAt at hi
    rw [h] at hi
    exact hi
  have hlen := r.len
  -- what a slot behind the store holds
  have at2 : ∀ (j : Nat) (c' : Ce), (e.set i (some c))[j]? = some (some c') → (j = i ∧ c' = c ∧ (σ.set i (some v))[j]? = some (some v)) ∨ (j ≠ i ∧ e[j]? = some (some c') ∧ (σ.set i (some v))[j]? = σ[j]?) := fun j c' h => by
    by_cases hj : j = i
    · subst hj
      have hl : j < e.length := by
        have := (List.getElem?_eq_some_iff.mp h).1
        simpa using this
      rw [List.getElem?_set_self hl] at h
      cases h
      exact .inl ⟨rfl, rfl, List.getElem?_set_self (by omega)⟩
    · rw [List.getElem?_set_ne (Ne.symm hj)] at h
      exact .inr ⟨hj, h, List.getElem?_set_ne (Ne.symm hj)⟩
  refine ⟨r.go, r.ba, fun j c' h => ?_, fun j k c1 c2 b hjk h1 h2 o1 o2 s1 s2 => ?_, fun p hp => ?_, by simp [hlen]⟩
  · rcases at2 j c' h with ⟨rfl, rfl, e1⟩ | ⟨hj, h', e1⟩
    · refine ⟨v, e1, ?_⟩
      rcases hv with ⟨d, rfl, hd⟩ | ⟨h1, a, o, xs, rfl, h2, h3, h4, h5, h6, h7⟩
      · exact .inl ⟨d, rfl, hd⟩
      · exact .inr ⟨a, o, xs, rfl, h3, h4, h6, h7, (fun z => by rw [h1] at z; cases z), fun _ => h2⟩
    · obtain ⟨v', q1, q2⟩ := r.at_ j c' h'
      exact ⟨v', e1.trans q1, q2⟩
  · have key : ∀ (j k : Nat) (c1 c2 : Ce), j = i → c1 = c → k ≠ i → e[k]? = some (some c2) → c1.ow = true → c2.ow = true → (σ.set i (some v))[j]? = some (some (V.ref b)) → (σ.set i (some v))[j]? = some (some v) → σ[k]? ≠ some (some (V.ref b)) := by
      intro j k c1 c2 hj hc hk kh2 ko1 ko2 ks1 ksv ks2
      rw [ksv] at ks1
      rcases hv with ⟨d, q, hd⟩ | ⟨h1, a, o, xs, q, h2', h3, h4, h5, h6, h7⟩
      · rw [hc, q] at ko1
        cases ko1
      · rw [q] at ks1
        cases ks1
        exact h5 ⟨k, c2, kh2, ko2, ks2⟩
    rcases at2 j c1 h1 with ⟨e1, e2, e3⟩ | ⟨hj, h1', e1⟩
    · rcases at2 k c2 h2 with ⟨e1', _, _⟩ | ⟨hk, h2', e1'⟩
      · exact hjk (e1.trans e1'.symm)
      · rw [e1'] at s2
        exact key j k c1 c2 e1 e2 hk h2' o1 o2 s1 e3 s2
    · rcases at2 k c2 h2 with ⟨e1', e2', e3'⟩ | ⟨hk, h2', e1'⟩
      · rw [e1] at s1
        exact key k j c2 c1 e1' e2' hj h1' o2 o1 s2 e3' s1
      · rw [e1] at s1
        rw [e1'] at s2
        exact r.sep j k c1 c2 b hjk h1' h2' o1 o2 s1 s2
  · obtain ⟨h1, c', h2, h3⟩ := r.io p hp
    have hne : p.1 ≠ i := fun z => by
      rw [z] at h2
      rw [hio c' h2] at h3
      cases h3
    rw [List.getElem?_set_ne (Ne.symm hne), List.getElem?_set_ne (Ne.symm hne)]
    exact ⟨h1, c', h2, h3⟩
def sAsg (i : Nat) (m : M Ce) : En → Out := fun e => onR (m e) fun c e' => if ioAt e' i = true then .no else .nx (e'.set i (some c))
def sAsgF (i : Nat) (m : M D) : En → Out := fun e => onR (m e) fun d e' => if ioAt e' i = true then .no else .nx (e'.set i (some (.f d)))
theorem post_ite {o : Out} {b : Bool} (h : Post K G F E (if b = true then .no else o)) : b = false ∧ Post K G F E o := by
  cases b with
  | true => rw [if_pos rfl] at h; exact h.elim
  | false => rw [if_neg Bool.false_ne_true] at h; exact ⟨rfl, h⟩
variable {st : Stmt} {sts : List Stmt} {ex ey ez : Expr} {es : List Expr} {pos pos' : Pos} {x : Str}
theorem asg_ok {m : M Ce} (h : tS K (sAsg i m) E σ H) : tAsg (tN K m) (gName i) E σ H := by
  obtain ⟨G, F, e, r, hp⟩ := h
  obtain ⟨c, e1, h1, hp⟩ := onR_inv hp
  obtain ⟨h2, hp⟩ := post_ite hp
  exact ⟨G, F, e, c, e1, r, h1, fun v F' H' n hn => hp F' H' _ (n.r.set h2 (hn.hat r n)) n.go.ff⟩
theorem asgF_ok {m : M D} (h : tS K (sAsgF i m) E σ H) : tAsg (tF K m) (gName i) E σ H := by
  obtain ⟨G, F, e, r, hp⟩ := h
  obtain ⟨c, e1, h1, hp⟩ := onR_inv hp
  obtain ⟨h2, hp⟩ := post_ite hp
  exact ⟨G, F, e, c, e1, r, h1, fun v F' H' n hn => hp F' H' _ (n.r.set h2 (.inl ⟨c, rfl, hn⟩)) n.go.ff⟩
/-- x = e, x a list or a dict of one's own -/
theorem pds_set {m : M Ce} (hN : X.N.Nodup) (hi : X.N[i]? = some x) (hx : Loc X.env.scope x) (he : PN X ex m) (hs : swapsWith ex (some (.Name x pos')) pos.line X.env = pure false := by rfl) (hf : X.fn x = true ∨ X.env.scope.names.lookup x = some .local := by first | exact .inl rfl | exact .inr rfl | assumption) :
    PDS X (.Assign [.Name x pos'] ex pos) (sAsg i m) := PSimp (ps_set hN hi hx he hs hf) fun D σ H h => asg_ok h
/-- x = e, frozen data -/
theorem pds_setF {m : M D} (hN : X.N.Nodup) (hi : X.N[i]? = some x) (hx : Loc X.env.scope x) (he : PF X ex m) (hs : swapsWith ex (some (.Name x pos')) pos.line X.env = pure false := by rfl) (hf : X.fn x = true ∨ X.env.scope.names.lookup x = some .local := by first | exact .inl rfl | exact .inr rfl | assumption) :
    PDS X (.Assign [.Name x pos'] ex pos) (sAsgF i m) := PSimp (ps_set hN hi hx he hs hf) fun D σ H h => asgF_ok h
/-- one behind the other -/
def sSeq (a b : En → Out) : En → Out := fun e => match a e with
  | .nx e' => b e'
  | o => o
def sNext : En → Out := fun e => .nx e
theorem pds_nil : PDs X [] sNext := PSsimp pss_nil fun E σ H ⟨G, F, e, r, hp⟩ => hp F H σ r (Evl.Ex.refl _)
theorem seq_ok {a b : En → Out} (h : tS K (sSeq a b) E σ H) : tSeq (tS K a) (tS K b) E σ H := by
  obtain ⟨G, F, e, r, hp⟩ := h
  refine ⟨G, F, e, r, ?_⟩
  unfold sSeq at hp
  cases q : a e with
  | nx e1 =>
    rw [q] at hp
    exact fun F' H' σ' r' x => ⟨G, F', e1, r', Post.ex hp x⟩
  | bk e1 => rw [q] at hp; exact hp
  | ct e1 => rw [q] at hp; exact hp
  | rt c e1 => rw [q] at hp; exact hp
  | ex n ds => rw [q] at hp; exact hp.elim
  | no => rw [q] at hp; exact hp.elim
theorem pds_cons {a b : En → Out} (h1 : PDS X st a) (h2 : PDs X sts b) : PDs X (st :: sts) (sSeq a b) := PSsimp (pss_cons h1 h2) fun D σ H h => seq_ok h
theorem pds_one {a : En → Out} (h1 : PDS X st a) : PDs X [st] a := pss_one h1
theorem pds_doc {s : Str} {j : Nat} : PDS X (.Expr (.Constant (.str s) j pos) pos') sNext := PSimp ps_doc fun E σ H ⟨G, F, e, r, hp⟩ => hp F H σ r (Evl.Ex.refl _)
theorem pds_pass : PDS X (.Pass pos) sNext := PSimp ps_pass fun E σ H ⟨G, F, e, r, hp⟩ => hp F H σ r (Evl.Ex.refl _)
def sBreak : En → Out := fun e => .bk e
def sCont : En → Out := fun e => .ct e
theorem pds_break : PDS X (.Break pos) sBreak := PSimp ps_break fun E σ H ⟨G, F, e, r, hp⟩ => hp F H σ r (Evl.Ex.refl _)
theorem pds_cont : PDS X (.Continue pos) sCont := PSimp ps_continue fun E σ H ⟨G, F, e, r, hp⟩ => hp F H σ r (Evl.Ex.refl _)
/-- a slot's own object is frozen for good (nothing happens in the program) -/
def sFrz (i : Nat) (b : En → Out) : En → Out := fun e => match e[i]? with
  | some (some c) => if c.io = true then .no else b (e.set i (some (.f c.d)))
  | _ => .no
theorem frz_ok {b : En → Out} (h : tS K (sFrz i b) E σ H) : tS K b E σ H := by
  obtain ⟨G, F, e, r, hp⟩ := h
  unfold sFrz at hp
  cases q : e[i]? with
  | none => rw [q] at hp; exact hp.elim
  | some oc =>
    cases oc with
    | none => rw [q] at hp; exact hp.elim
    | some c =>
      rw [q] at hp
      obtain ⟨hio, hp⟩ := post_ite hp
      obtain ⟨v, h1, h2⟩ := r.at_ i c q
      have hioAt : ioAt e i = false := by unfold ioAt; rw [q]; exact hio
      have hset : ∀ (σ : L2.St), σ[i]? = some (some v) → σ.set i (some v) = σ := fun σ hσ => by
        apply List.ext_getElem?
        intro j
        by_cases hj : j = i
        · subst hj
          rw [List.getElem?_set_self (List.getElem?_eq_some_iff.mp hσ).1, hσ]
        · rw [List.getElem?_set_ne (Ne.symm hj)]
      rcases h2 with ⟨d, rfl, hd⟩ | ⟨a, o, xs, rfl, q1, q2, q3, q4, q5, q6⟩
      · have r2 := r.set (i := i) hioAt (c := .f d) (v := v) (.inl ⟨d, rfl, hd⟩)
        rw [hset σ h1] at r2
        exact ⟨G, F, _, r2, hp⟩
      · -- the slot is forgotten, the object frozen, the slot told anew
        have hcd : Dn K (upd F a o) (.ref a) c.d := by
          cases c with
          | f d => exact q3.elim
          | l p ds =>
            have q3' : o = .lst xs := q3
            subst q3'
            exact .lst upd_same (q4.mono (Evl.Ex.new q1))
          | k p t ks vs => exact .dic upd_same q3 (q4.mono (Evl.Ex.new q1))
        have hl : i < e.length := (List.getElem?_eq_some_iff.mp q).1
        -- R without slot i
        have r0 : R K G F H σ (e.set i none) := by
          have at2 : ∀ (j : Nat) (c' : Ce), (e.set i none)[j]? = some (some c') → j ≠ i ∧ e[j]? = some (some c') := fun j c' h => by
            by_cases hj : j = i
            · subst hj
              rw [List.getElem?_set_self hl] at h
              cases h
            · rw [List.getElem?_set_ne (Ne.symm hj)] at h
              exact ⟨hj, h⟩
          refine ⟨r.go, r.ba, fun j c' h => r.at_ j c' (at2 j c' h).2, fun j k c1 c2 b hjk g1 g2 o1 o2 => r.sep j k c1 c2 b hjk (at2 _ _ g1).2 (at2 _ _ g2).2 o1 o2, fun p hp => ?_, by simpa using r.len⟩
          obtain ⟨g1, c', g2, g3⟩ := r.io p hp
          have hne : p.1 ≠ i := fun z => by
            rw [z, q] at g2
            cases g2
            rw [hio] at g3
            cases g3
          exact ⟨g1, c', by rw [List.getElem?_set_ne (Ne.symm hne)]; exact g2, g3⟩
        have hnl : ¬ Lv σ (e.set i none) a := fun ⟨j, c', g1, g2, g3⟩ => by
          by_cases hj : j = i
          · subst hj
            rw [List.getElem?_set_self hl] at g1
            cases g1
          · rw [List.getElem?_set_ne (Ne.symm hj)] at g1
            exact r.sep j i c' c a hj g1 q g2 q3.ow g3 h1
        have r1 := r0.frz q1 q2 hnl (q6 hio)
        have r2 := r1.set (i := i) (c := .f c.d) (v := .ref a) (by unfold ioAt; rw [List.getElem?_set_self hl]) (.inl ⟨_, rfl, hcd⟩)
        rw [hset σ h1, List.set_set] at r2
        exact ⟨G, upd F a o, _, r2, Post.ex hp (Evl.Ex.new q1)⟩
theorem pds_frz {b : En → Out} (i : Nat) (h : PDs X sts b) : PDs X sts (sFrz i b) := PSsimp h fun D σ H h => frz_ok h
/-- an expression as a statement -/
def sDrop {α : Type} (m : M α) : En → Out := fun e => onR (m e) fun _ e' => .nx e'
theorem pds_expr {m : M Ce} (he : PN X ex m) (hs : swapsWith ex none pos.line X.env = pure false := by rfl) : PDS X (.Expr ex pos) (sDrop m) := PSimp (ps_expr he hs) fun E σ H ⟨G, F, e, r, hp⟩ => by
  obtain ⟨c, e1, h1, hp⟩ := onR_inv hp
  exact ⟨G, F, e, c, e1, r, h1, fun v F' H' n hn => hp F' H' _ n.r n.go.ff⟩
def sRet (m : M Ce) : En → Out := fun e => onR (m e) fun c e' => .rt c e'
theorem NAt.rt {e1 : En} (h : NAt K H F1 H1 c v) (r : R K G F H σ e) : RtA K G F1 H1 c v := by
  rcases h with ⟨d, rfl, h⟩ | ⟨hio, a, o, xs, rfl, h1, h2, h3, h4, h5⟩
  · exact .inl ⟨d, rfl, h⟩
  · exact .inr ⟨hio, a, o, xs, rfl, (r.new h1).2.1, h2, h3, h4, h5⟩
theorem pds_ret {m : M Ce} (he : PN X ex m) : PDS X (.Return (some ex) pos) (sRet m) := PSimp (ps_ret he) fun E σ H ⟨G, F, e, r, hp⟩ => by
  obtain ⟨c, e1, h1, hp⟩ := onR_inv hp
  exact ⟨G, F, e, c, e1, r, h1, fun v F' H' n hn => hp v F' H' σ n.r n.go.ff (hn.rt (e1 := e) r)⟩
def sRetN : En → Out := fun e => .rt (.f .none) e
theorem pds_retN : PDS X (.Return none pos) sRetN := PSimp ps_retN fun E σ H ⟨G, F, e, r, hp⟩ => hp .non F H σ r (Evl.Ex.refl _) (.inl ⟨_, rfl, .non⟩)
/-- return x, x a slot with an object of one's own -/
def sRetS (i : Nat) : En → Out := fun e => match e[i]? with
  | some (some c) => if c.io = true then .no else .rt c e
  | _ => .no
theorem pds_retS (i : Nat) (he : PE X ex (tVar i)) : PDS X (.Return (some ex) pos) (sRetS i) := PSimp (ps_ret he) fun E σ H ⟨G, F, e, r, hp⟩ => by
  unfold sRetS at hp
  cases q : e[i]? with
  | none => rw [q] at hp; exact hp.elim
  | some oc =>
    cases oc with
    | none => rw [q] at hp; exact hp.elim
    | some c =>
      rw [q] at hp
      obtain ⟨hio, hp⟩ := post_ite hp
      obtain ⟨v, h1, h2⟩ := r.at_ i c q
      refine ⟨v, h1, hp v F H σ r (Evl.Ex.refl _) ?_⟩
      rcases h2 with ⟨d, rfl, hd⟩ | ⟨a, o, xs, rfl, q1, q2, q3, q4, q5, q6⟩
      · exact .inl ⟨d, rfl, hd⟩
      · exact .inr ⟨hio, a, o, xs, rfl, q6 hio, q1, q2, q3, q4⟩
def sIf (t : M Bool) (a b : En → Out) : En → Out := fun e => onR (t e) fun c e' => if c = true then a e' else b e'
theorem pds_if {t : M Bool} {a b : En → Out} {s1 s2 : List Stmt} (ht : PTd X ex t) (ha : PDs X s1 a) (hb : PDs X s2 b) : PDS X (.If ex s1 s2 pos) (sIf t a b) := PSimp (ps_if ht ha hb) fun E σ H ⟨G, F, e, r, hp⟩ => by
  obtain ⟨c, e1, h1, hp⟩ := onR_inv hp
  refine ⟨G, F, e, c, e1, r, h1, fun F' H' n => ?_⟩
  cases c with
  | true => exact ⟨G, F', e1, n.r, Post.ex hp n.go.ff⟩
  | false => exact ⟨G, F', e1, n.r, Post.ex hp n.go.ff⟩

/-! ### a list of one's own is changed -/
theorem set_kd (h : e[i]? = some (some c)) {c' : Ce} (hk : c'.kd = c.kd) : (e.set i (some c')).map (Option.map Ce.kd) = e.map (Option.map Ce.kd) := by
  apply List.ext_getElem?
  intro j
  rw [List.getElem?_map, List.getElem?_map]
  by_cases hj : j = i
  · subst hj
    rw [List.getElem?_set_self (List.getElem?_eq_some_iff.mp h).1, h]
    simp [hk]
  · rw [List.getElem?_set_ne (Ne.symm hj)]
/-- the object of slot i is written: its cell is c' from now on -/
theorem R.wr (r : R K G F H σ e) (h : e[i]? = some (some c)) (hs : σ[i]? = some (some (.ref a))) (ho : c.ow = true) {c' : Ce} (hk : c'.kd = c.kd) {o' : HO} {xs' : List V} (hc : CeO o' c' xs') (hm : DnA K F xs' c'.mem) :
    Nx K G σ F H e F (upd H a o') (e.set i (some c')) := by
  have hl : i < e.length := (List.getElem?_eq_some_iff.mp h).1
  obtain ⟨v, h1, h2⟩ := r.at_ i c h
  rw [hs] at h1
  cases h1
  obtain ⟨a', o, xs, q, q1, q2, q3, q4, q5, q6⟩ := h2.own ho
  cases q
  have lv : Lv σ e a := ⟨i, c, h, ho, hs⟩
  have sh := set_kd h hk
  obtain ⟨k1, k2⟩ := kd_ow hk
  have go : Go F H F (upd H a o') (Lv σ e) := Go.wr r.fh q1 lv (by rw [q2]; rfl)
  have at2 : ∀ (j : Nat) (c2 : Ce), (e.set i (some c'))[j]? = some (some c2) → (j = i ∧ c2 = c') ∨ (j ≠ i ∧ e[j]? = some (some c2)) := fun j c2 h => by
    by_cases hj : j = i
    · subst hj
      rw [List.getElem?_set_self hl] at h
      cases h
      exact .inl ⟨rfl, rfl⟩
    · rw [List.getElem?_set_ne (Ne.symm hj)] at h
      exact .inr ⟨hj, h⟩
  refine ⟨⟨?_, r.ba, fun j c2 hj => ?_, fun j k c1 c2 b hjk h1 h2 o1 o2 s1 => ?_, fun p hp => ?_, by simpa using r.len⟩, go, sh⟩
  · refine ⟨r.go.ff, fun b u hb hn => ?_, go.fh, fun b hb1 hb2 => ?_⟩
    · have hba : b ≠ a := fun z => by
        subst z
        cases hci : c.io with
        | true => exact hn ⟨i, q5 hci⟩
        | false =>
          rw [q6 hci] at hb
          cases hb
      rw [upd_ne hba]
      exact r.go.hh b u hb hn
    · obtain ⟨z1, z2⟩ := r.go.st b hb1 hb2
      refine ⟨z1, ?_⟩
      by_cases hba : b = a
      · subst hba; rw [upd_same]; rfl
      · rw [upd_ne hba]; exact z2
  · rcases at2 j c2 hj with ⟨rfl, rfl⟩ | ⟨hne, hj⟩
    · exact ⟨_, hs, .inr ⟨a, o', xs', rfl, q1, upd_same, hc, hm, fun z => q5 (by rw [← k2]; exact z), fun z => q6 (by rw [← k2]; exact z)⟩⟩
    · obtain ⟨w, g1, g2⟩ := r.at_ j c2 hj
      refine ⟨w, g1, ?_⟩
      rcases g2 with g2 | ⟨b, u, ys, rfl, z1, z2, z3, z4, z5, z6⟩
      · exact .inl g2
      · have hba : b ≠ a := fun z => by
          subst z
          exact r.sep j i c2 c b hne hj h z3.ow ho g1 hs
        exact .inr ⟨b, u, ys, rfl, z1, by rw [upd_ne hba]; exact z2, z3, z4, z5, z6⟩
  · obtain ⟨d1, g1, w1⟩ := sh_at sh.symm h1
    obtain ⟨d2, g2, w2⟩ := sh_at sh.symm h2
    exact r.sep j k d1 d2 b hjk g1 g2 (by rw [(kd_ow w1).1]; exact o1) (by rw [(kd_ow w2).1]; exact o2) s1
  · obtain ⟨h1, c2, h2, h3⟩ := r.io p hp
    obtain ⟨d2, g2, w2⟩ := sh_at sh h2
    exact ⟨h1, d2, g2, by rw [(kd_ow w2).2]; exact h3⟩
/-- x.append(e) -/
def sApp (i : Nat) (m : M D) : En → Out := fun e => match e[i]? with
  | some (some (.l _ _)) => onR (m e) fun d e' => (match e'[i]? with
    | some (some (.l p ds)) => if ds.length < 16000000 then .nx (e'.set i (some (.l p (ds ++ [d])))) else .no
    | _ => .no)
  | _ => .no
theorem small_line {n : Nat} (h : n < 16000000) : n < sizeLine := by rw [sizeLine_eq]; omega
theorem lst_at (h : e[i]? = some (some c)) (r : R K G F H σ e) {p : Bool} {ds : List D} (hc : c = .l p ds) : ∃ a xs, σ[i]? = some (some (.ref a)) ∧ F a = none ∧ H a = some (.lst xs) ∧ DnA K F xs ds := by
  subst hc
  obtain ⟨v0, s0, a0⟩ := r.at_ i _ h
  obtain ⟨a, o, xs, rfl, z1, z2, z3, z4, _⟩ := a0.own rfl
  have z3' : o = .lst xs := z3
  subst z3'
  exact ⟨a, xs, s0, z1, z2, z4⟩
theorem app_ok {m : M D} (h : tS K (sApp i m) E σ H) : tDrop (tBM K "list" rAppend (tVar i) (tCons (tF K m) tNil)) E σ H := by
  obtain ⟨G, F, e, r, hp⟩ := h
  unfold sApp at hp
  split at hp
  · rename_i p0 ds0 g0
    obtain ⟨d, e1, h1, hp⟩ := onR_inv hp
    obtain ⟨a, xs, s0, z1, z2, z4⟩ := lst_at g0 r rfl
    refine ⟨.ref a, s0, .inl ⟨rfl, _, .inl (.inl z2)⟩, G, F, e, d, e1, r, h1, fun v F1 H1 n1 hd => ?_⟩
    split at hp
    · rename_i p ds q
      by_cases hz : ds.length < 16000000
      · rw [if_pos hz] at hp
        obtain ⟨a', xs', s1, y1, y2, y4⟩ := lst_at q n1.r rfl
        rw [s0] at s1
        cases s1
        refine ⟨a, xs', v, rfl, rfl, y2, ?_, ?_⟩
        · rw [y4.len]; exact small_line hz
        · have n2 := n1.r.wr (c' := .l p (ds ++ [d])) q s0 rfl (by cases p <;> rfl) (o' := .lst (xs' ++ [v])) (xs' := xs' ++ [v]) rfl (y4.app (.cons hd .nil))
          exact hp F1 _ σ n2.r n1.go.ff
      · rw [if_neg hz] at hp
        exact hp.elim
    · exact hp.elim
  · exact hp.elim
end
end DL

namespace DL
open PySem L2 PyProof.Rows
section
variable {X : Cx} {K : PySem.W.Frag} {G : Bs} {F F1 H H1 : Hp} {σ : L2.St} {e e1 : En} {E : Ends} {v : V} {c : Ce} {d : D} {i : Nat} {a : Addr}
variable {st : Stmt} {sts : List Stmt} {ex ey ez tg : Expr} {es : List Expr} {pos pos' apos cpos : Pos} {x : Str}
theorem pds_app {m : M D} (ho : PE X ex (tVar i)) (he : PF X ey m) (hbase : attributeBase ex "append" X.env (eval ex X.env) = eval ex X.env := by rfl)
    (hfew : ((backTo cpos (starEach [ey] X.env)).all (fun x => !x.1) && (backToKw cpos (keywordEach [] X.env)).all (fun x => x.1.isSome) && decide (([ey] : List Expr).length + ([] : List Keyword).length + (if ([] : List Keyword).isEmpty then 0 else 1) < 30)) = true := by rfl)
    (hline : (apos.endLine == cpos.line) = true := by rfl) (hs : starEach [ey] X.env = (false, eval ey X.env) :: starEach [] X.env := by rfl) (hplain : (backTo cpos (starEach ([] : List Expr) X.env)).any (·.1) = false := by rfl)
    (hsw : swapsWith (.Call (.Attribute ex "append" apos) [ey] [] cpos) none pos.line X.env = pure false := by rfl) : PDS X (.Expr (.Call (.Attribute ex "append" apos) [ey] [] cpos) pos) (sApp i m) :=
  PSimp (ps_expr (pe_bm PySem.F.plainAttrs_list PySem.F.slot_list_append PySem.F.type_list_append mt_append ho (pa_cons he pa_nil hs) hbase hfew hline hs hplain) hsw) fun D σ H h => app_ok h

/-! ### targets -/
abbrev Tg := D → En → Rs En
def tgN (i : Nat) : Tg := fun d e => if ioAt e i = true then .no else .ok (e.set i (some (.f d)))
def tgAll : List Tg → List D → En → Rs En
  | [], [], e => .ok e
  | t :: ts, d :: ds, e => (t d e).bind (tgAll ts ds)
  | _, _, _ => .no
def tgT (ts : List Tg) : Tg := fun d e => match d with
  | .tuple ds => tgAll ts ds e
  | _ => .no
/-- slots besides these are as they were -/
def Chg (is : List Nat) (σ σ' : L2.St) : Prop := σ'.length = σ.length ∧ ∀ j, j ∉ is → σ'[j]? = σ[j]?
def tG (K : PySem.W.Frag) (t : Tg) (is : List Nat) : TG := fun v σ H Q => ∃ G F e d e', R K G F H σ e ∧ Dn K F v d ∧ t d e = .ok e' ∧ ∀ σ', R K G F H σ' e' → Chg is σ σ' → Q σ' H
def tGs (K : PySem.W.Frag) (ts : List Tg) (is : List Nat) : TGs := fun vs σ H Q => ∃ G F e ds e', R K G F H σ e ∧ DnA K F vs ds ∧ tgAll ts ds e = .ok e' ∧ ∀ σ', R K G F H σ' e' → Chg is σ σ' → Q σ' H
abbrev PGd (X : Cx) (tg : Expr) (t : Tg) (is : List Nat) : Prop := PG X tg (tG X.K t is)
abbrev PGds (X : Cx) (tgs : List Expr) (ts : List Tg) (is : List Nat) : Prop := PGs X tgs (tGs X.K ts is)
theorem PGsimp {tgs : List Expr} {t t' : TGs} (h : PGs X tgs t) (hi : ∀ v σ H Q, t' v σ H Q → t v σ H Q) : PGs X tgs t' := ⟨fun pins s σ H v u Q I r q => h.run pins s σ H v u Q I r (hi v σ H Q q)⟩
theorem ite_ok2 {α : Type} {b : Bool} {r : Rs α} {y : α} (h : (if b = true then .no else r) = .ok y) : b = false ∧ r = .ok y := by
  cases b with
  | true => rw [if_pos rfl] at h; cases h
  | false => rw [if_neg Bool.false_ne_true] at h; exact ⟨rfl, h⟩
theorem chg_set {i : Nat} {o : Option V} : Chg [i] σ (σ.set i o) := ⟨by simp, fun j hj => List.getElem?_set_ne (by simpa using fun z => hj (by simp [z]))⟩
theorem Chg.trans {is js : List Nat} {σ1 σ2 : L2.St} (h : Chg is σ σ1) (k : Chg js σ1 σ2) : Chg (is ++ js) σ σ2 := ⟨k.1.trans h.1, fun j hj => by
  rw [List.mem_append, not_or] at hj
  exact (k.2 j hj.2).trans (h.2 j hj.1)⟩
theorem pgd_name (hN : X.N.Nodup) (hi : X.N[i]? = some x) (hx : Loc X.env.scope x) (hf : X.fn x = true ∨ X.env.scope.names.lookup x = some .local := by first | exact .inl rfl | exact .inr rfl | assumption) : PGd X (.Name x pos) (tgN i) [i] :=
  PGimp (pg_name hN hi hx hf) fun v σ H Q ⟨G, F, e, d, e', r, hd, ht, q⟩ => by
    obtain ⟨h1, h2⟩ := ite_ok2 ht
    cases h2
    exact q _ (r.set h1 (.inl ⟨d, rfl, hd⟩)) chg_set
theorem pgds_nil : PGds X [] [] [] := PGsimp pgs_nil fun v σ H Q ⟨G, F, e, ds, e', r, hd, ht, q⟩ => by
  cases hd with
  | nil => cases ht; exact ⟨rfl, q _ r ⟨rfl, fun _ _ => rfl⟩⟩
  | cons _ _ => cases ht
theorem pgds_cons {tgs : List Expr} {t : Tg} {ts : List Tg} {is js : List Nat} (h1 : PGd X tg t is) (h2 : PGds X tgs ts js) (hs : (assignEach (tg :: tgs) X.env).map (·.2) = assign tg X.env :: (assignEach tgs X.env).map (·.2) := by rfl) : PGds X (tg :: tgs) (t :: ts) (is ++ js) :=
  PGsimp (pgs_cons h1 h2 hs) fun v σ H Q ⟨G, F, e, ds, e', r, hd, ht, q⟩ => by
    cases hd with
    | nil => cases ht
    | cons hd ha =>
      obtain ⟨e1, h3, h4⟩ := Rs.bind_eq ht
      exact ⟨_, _, rfl, G, F, e, _, e1, r, hd, h3, fun σ' r' c1 => ⟨G, F, e1, _, e', r', ha, h4, fun σ2 r2 c2 => q σ2 r2 (c1.trans c2)⟩⟩
theorem pgd_tup {tgs : List Expr} {ts : List Tg} {is : List Nat} {k n : Nat} (hc : X.calm = true) (h : PGds X tgs ts is) (hl : ts.length = n) (hn : (assignEach tgs X.env).length = n := by rfl) (hst : (assignEach tgs X.env).findIdx? (·.1) = none := by rfl) : PGd X (.Tuple tgs k pos) (tgT ts) is :=
  PGimp (pg_tup hc h hn hst) fun v σ H Q ⟨G, F, e, d, e', r, hd, ht, q⟩ => by
    unfold tgT at ht
    split at ht
    · rename_i ds
      obtain ⟨a, xs, rfl, h1, h2⟩ := hd.tuple_inv
      refine ⟨a, xs, rfl, Evl.ex_t r.fh h1, ?_, G, F, e, ds, e', r, h2, ht, q⟩
      have key : ∀ (ts : List Tg) (ds : List D) (e : En), tgAll ts ds e = .ok e' → ts.length = ds.length := by
        intro ts
        induction ts with
        | nil => intro ds e h; cases ds with
          | nil => rfl
          | cons d ds => cases h
        | cons t ts ih => intro ds e h; cases ds with
          | nil => cases h
          | cons d ds =>
            obtain ⟨e1, _, h4⟩ := Rs.bind_eq h
            rw [List.length_cons, List.length_cons, ih ds e1 h4]
      rw [h2.len, ← key ts ds e ht, hl]
    · cases ht
/-- what a target's rule does to the environment -/
def frozenAt (e : En) (i : Nat) : Bool := match e[i]? with
  | some (some c) => !c.ow
  | _ => true
structure TgOk (t : Tg) (is : List Nat) : Prop where
  ln : ∀ d e e', t d e = .ok e' → e'.length = e.length
  ne : ∀ d e e', t d e = .ok e' → ∀ j, j ∉ is → e'[j]? = e[j]?
  fz : ∀ d e e', t d e = .ok e' → ∀ j, (j ∈ is ∨ frozenAt e j = true) → frozenAt e' j = true
theorem tgOk_n (i : Nat) : TgOk (tgN i) [i] := by
  refine ⟨fun d e e' h => ?_, fun d e e' h j hj => ?_, fun d e e' h j hj => ?_⟩
  · obtain ⟨_, h⟩ := ite_ok2 h
    cases h
    simp
  · obtain ⟨_, h⟩ := ite_ok2 h
    cases h
    exact List.getElem?_set_ne (by simpa using fun z => hj (by simp [z]))
  · obtain ⟨_, h⟩ := ite_ok2 h
    cases h
    by_cases hji : j = i
    · subst hji
      unfold frozenAt
      by_cases hl : j < e.length
      · rw [List.getElem?_set_self hl]; rfl
      · rw [List.getElem?_eq_none (by simpa using Nat.le_of_not_lt hl)]
    · rcases hj with hj | hj
      · exact absurd (by simpa using hj) hji
      · unfold frozenAt at hj ⊢
        rw [List.getElem?_set_ne (Ne.symm hji)]
        exact hj
inductive TgsOk : List Tg → List Nat → Prop where
  | nil : TgsOk [] []
  | cons {t : Tg} {ts : List Tg} {is js : List Nat} : TgOk t is → TgsOk ts js → TgsOk (t :: ts) (is ++ js)
theorem TgsOk.all : ∀ {ts : List Tg} {is : List Nat}, TgsOk ts is → ∀ ds e e', tgAll ts ds e = .ok e' → e'.length = e.length ∧ (∀ j, j ∉ is → e'[j]? = e[j]?) ∧ ∀ j, (j ∈ is ∨ frozenAt e j = true) → frozenAt e' j = true
  | _, _, .nil, ds, e, e', h => by
    cases ds with
    | nil => cases h; exact ⟨rfl, fun _ _ => rfl, fun j hj => by simpa using hj⟩
    | cons d ds => cases h
  | _, _, .cons t ts, ds, e, e', h => by
    cases ds with
    | nil => cases h
    | cons d ds =>
      obtain ⟨e1, h1, h2⟩ := Rs.bind_eq h
      obtain ⟨g1, g2, g3⟩ := TgsOk.all ts ds e1 e' h2
      refine ⟨g1.trans (t.ln d e e1 h1), fun j hj => ?_, fun j hj => ?_⟩
      · rw [List.mem_append, not_or] at hj
        exact (g2 j hj.2).trans (t.ne d e e1 h1 j hj.1)
      · rw [List.mem_append] at hj
        rcases hj with (hj | hj) | hj
        · exact g3 j (.inr (t.fz d e e1 h1 j (.inl hj)))
        · exact g3 j (.inl hj)
        · exact g3 j (.inr (t.fz d e e1 h1 j (.inr hj)))
theorem tgOk_t {ts : List Tg} {is : List Nat} (h : TgsOk ts is) : TgOk (tgT ts) is := by
  have key : ∀ d e e', tgT ts d e = .ok e' → ∃ ds, tgAll ts ds e = .ok e' := fun d e e' h => by
    unfold tgT at h
    split at h
    · exact ⟨_, h⟩
    · cases h
  exact ⟨fun d e e' q => let ⟨ds, q⟩ := key d e e' q; (h.all ds e e' q).1, fun d e e' q => let ⟨ds, q⟩ := key d e e' q; (h.all ds e e' q).2.1, fun d e e' q => let ⟨ds, q⟩ := key d e e' q; (h.all ds e e' q).2.2⟩
/-- target = value, by a target's rule -/
def sTgt (t : Tg) (m : M D) : En → Out := fun e => onR (m e) fun d e' => match t d e' with
  | .ok e2 => .nx e2
  | _ => .no
theorem pds_asg {t : Tg} {is : List Nat} {m : M D} (he : PF X ex m) (hg : PGd X tg t is) (hs : swapsWithSole [tg] ex pos.line X.env = pure false := by rfl) (hw : swappedStores [tg] ex X.env = pure none := by rfl)
    (h1 : (assignEach [tg] X.env).map (·.2) = [assign tg X.env] := by rfl) : PDS X (.Assign [tg] ex pos) (sTgt t m) := PSimp (ps_asg he hg hs hw h1) fun E σ H ⟨G, F, e, r, hp⟩ => by
  obtain ⟨d, e1, h1, hp⟩ := onR_inv hp
  split at hp
  · rename_i e2 h2
    exact ⟨G, F, e, d, e1, r, h1, fun v F' H' n hd => ⟨G, F', e1, d, e2, n.r, hd, h2, fun σ' r' _ => hp F' H' σ' r' n.go.ff⟩⟩
  · exact hp.elim
/-- x, y = a, b -/
def sPar (i j : Nat) (m : M (List D)) : En → Out := fun e => onR (m e) fun ds e' => match ds with
  | [d1, d2] => if (ioAt e' i || ioAt e' j) = true then .no else .nx ((e'.set i (some (.f d1))).set j (some (.f d2)))
  | _ => .no
theorem ioAt_set {d : D} {i j : Nat} (h : ioAt e j = false) : ioAt (e.set i (some (.f d))) j = false := by
  unfold ioAt at h ⊢
  by_cases hj : j = i
  · subst hj
    by_cases hl : j < e.length
    · rw [List.getElem?_set_self hl]; rfl
    · rw [List.getElem?_eq_none (by simpa using Nat.le_of_not_lt hl)]
  · rw [List.getElem?_set_ne (Ne.symm hj)]; exact h
theorem pds_par {i j : Nat} {x y : Str} {px py pt : Pos} {kt k2 : Nat} {pt2 : Pos} {m : M (List D)} (hc : X.calm = true) (hN : X.N.Nodup) (hi : X.N[i]? = some x) (hj : X.N[j]? = some y) (hij : i ≠ j)
    (hx : X.env.scope.names.lookup x = some .local) (hy : X.env.scope.names.lookup y = some .local) (ha : PAd X [ex, ey] m)
    (hw : swappedStores [.Tuple [.Name x px, .Name y py] kt pt] (.Tuple [ex, ey] k2 pt2) X.env = pure (some [x, y]))
    (hs : swapsWithSole [.Tuple [.Name x px, .Name y py] kt pt] (.Tuple [ex, ey] k2 pt2) pos.line X.env = pure false := by rfl) : PDS X (.Assign [.Tuple [.Name x px, .Name y py] kt pt] (.Tuple [ex, ey] k2 pt2) pos) (sPar i j m) :=
  PSimp (ps_par hc hN hi hj hij hx hy ha hw hs) fun E σ H ⟨G, F, e, r, hp⟩ => by
    obtain ⟨ds, e1, h1, hp⟩ := onR_inv hp
    split at hp
    · rename_i d1 d2
      obtain ⟨h2, hp⟩ := post_ite hp
      obtain ⟨h3, h4⟩ := Bool.or_eq_false_iff.mp h2
      refine ⟨G, F, e, _, e1, r, h1, fun vs F' H' n hd => ?_⟩
      cases hd with
      | cons g1 t =>
        cases t with
        | cons g2 t =>
          cases t
          refine ⟨_, _, rfl, hp F' H' _ ?_ n.go.ff⟩
          exact (n.r.set h3 (.inl ⟨d1, rfl, g1⟩)).set (ioAt_set h4) (.inl ⟨d2, rfl, g2⟩)
    · exact hp.elim
def sPar3 (i j k : Nat) (m : M (List D)) : En → Out := fun e => onR (m e) fun ds e' => match ds with
  | [d1, d2, d3] => if (ioAt e' i || (ioAt e' j || ioAt e' k)) = true then .no else .nx (((e'.set i (some (.f d1))).set j (some (.f d2))).set k (some (.f d3)))
  | _ => .no
/-- x op= e -/
def sAug (g : D → D → Rs Ce) (i : Nat) (m : M D) : En → Out := fun e => match e[i]? with
  | some (some (.f dx)) => onR (m e) fun d e' => (match g dx d with
    | .ok (.f dz) => .nx (e'.set i (some (.f dz)))
    | _ => .no)
  | _ => .no
theorem pds_aug {op : Operator} {r : R2} {g : D → D → Rs Ce} {m : M D} (hN : X.N.Nodup) (hi : X.N[i]? = some x) (hx : Loc X.env.scope x) (he : PF X ex m) (ho : OpR X (inplaceOp op) r) (hsnd : Snd2 X.K r g) (hf : X.fn x = true ∨ X.env.scope.names.lookup x = some .local := by first | exact .inl rfl | exact .inr rfl | assumption) :
    PDS X (.AugAssign (.Name x pos') op ex pos) (sAug g i m) := PSimp (ps_aug (ti := r) hN hi hx he ho hf) fun E σ H ⟨G, F, e, rr, hp⟩ => by
  unfold sAug at hp
  split at hp
  · rename_i dx q
    obtain ⟨d, e1, h1, hp⟩ := onR_inv hp
    obtain ⟨w, s0, a0⟩ := rr.at_ i _ q
    refine ⟨w, s0, G, F, e, d, e1, rr, h1, fun v F1 H1 n hd => ?_⟩
    split at hp
    · rename_i dz hg
      refine hsnd F1 H1 w v dx d _ _ n.r.fh (.inl (n.dn a0.fz)) (.inl hd) hg fun z F2 H2 go nat => ?_
      have n2 := n.r.step go
      refine hp F2 H2 _ (n2.r.set ?_ (.inl ⟨dz, rfl, nat.fz⟩)) (n.go.ff.trans go.ff)
      -- the slot holds frozen data still
      obtain ⟨c', g1, g2⟩ := sh_at n.sh q
      unfold ioAt
      rw [g1]
      show c'.io = false
      rw [(kd_ow g2).2]
      rfl
    · exact hp.elim
  · exact hp.elim

/-! ### for -/
/-- what the walk J yields: these data, whatever grows meanwhile -/
def Wk (K : PySem.W.Frag) (J : It) (F : Hp) (ds : List D) : Prop :=
  ∀ (i : Nat) (F2 H2 : Hp), Ex F F2 → Ex F2 H2 → (∀ d, ds[i]? = some d → J.go i H2 ∧ ∀ x H3, J.yld i H2 x H3 → ∃ F3, Go F2 H2 F3 H3 noA ∧ Dn K F3 x d) ∧ (ds[i]? = none → J.stop i H2)
def tI (K : PySem.W.Frag) (m : M (List D)) : TI := fun σ H R' => ∃ G F e ds e', R K G F H σ e ∧ m e = .ok (ds, e') ∧ ∀ J F' H', Nx K G σ F H e F' H' e' → Wk K J F' ds → R' J H'
abbrev PId (X : Cx) (tg iter : Expr) (m : M (List D)) : Prop := PI X tg iter (tI X.K m)
theorem PIimp {t t' : TI} (h : PI X tg ex t) (hi : ∀ σ H Q, t' σ H Q → t σ H Q) : PI X tg ex t' := ⟨fun pins s σ H Q I q => h.run pins s σ H Q I (hi σ H Q q)⟩
def mSeq (m : M D) : M (List D) := fun e => (m e).bind fun p => match p.1 with
  | .list ds => .ok (ds, p.2)
  | .ro ds => .ok (ds, p.2)
  | _ => .no
def mSeqT (m : M D) : M (List D) := fun e => (m e).bind fun p => match p.1 with
  | .tuple ds => .ok (ds, p.2)
  | _ => .no
theorem wk_list {xs : List V} {ds : List D} (h : SqL K F a xs) (hd : DnA K F xs ds) (inj : ∀ (H : Hp) ys, Ex F H → SqL K H a ys → ys = xs) : Wk K (Itl K a) F ds := fun i F2 H2 x1 x2 => by
  have hx := x1.trans x2
  refine ⟨fun d hi => ?_, fun hi => ?_⟩
  · obtain ⟨v, h1, h2⟩ := hd.get hi
    refine ⟨⟨xs, v, Evl.ex_l hx h, h1⟩, fun x H3 y => ?_⟩
    obtain ⟨rfl, y⟩ := y
    have := y xs (Evl.ex_l hx h)
    rw [h1] at this
    cases this
    exact ⟨F2, Go.refl x2, h2.mono x1⟩
  · exact ⟨xs, Evl.ex_l hx h, by rw [hd.len]; exact List.getElem?_eq_none_iff.mp hi⟩
/-- over a list that is frozen -/
theorem pid_list {m : M D} (h : PF X ex m) : PId X tg ex (mSeq m) := PIimp (pi_list h) fun σ H Q ⟨G, F, e, ds, e', r, hm, q⟩ => by
  obtain ⟨d, e1, h1, hm⟩ := bind_ok2 hm
  simp only at hm
  have key : ∀ v F' H', Nx X.K G σ F H e F' H' e1 → e' = e1 → (∃ a xs, v = V.ref a ∧ SqL X.K F' a xs ∧ DnA X.K F' xs ds) → ∃ a, v = V.ref a ∧ (∃ xs, SqL X.K H' a xs) ∧ Q (Itl X.K a) H' := fun v F' H' n he ⟨a, xs, hv, hl, hd⟩ => by
    subst he
    refine ⟨a, hv, ⟨xs, Evl.ex_l n.r.fh hl⟩, q _ F' H' n ?_⟩
    intro i F2 H2 x1 x2
    have hx := x1.trans x2
    refine ⟨fun d hi => ?_, fun hi => ?_⟩
    · obtain ⟨w, h1, h2⟩ := hd.get hi
      refine ⟨⟨xs, w, Evl.ex_l hx hl, h1⟩, fun x H3 y => ?_⟩
      obtain ⟨rfl, y⟩ := y
      have := y xs (Evl.ex_l hx hl)
      rw [h1] at this
      cases this
      exact ⟨F2, Go.refl x2, h2.mono x1⟩
    · exact ⟨xs, Evl.ex_l hx hl, by rw [hd.len]; exact List.getElem?_eq_none_iff.mp hi⟩
  split at hm
  · cases hm
    refine ⟨G, F, e, _, _, r, h1, fun v F' H' n hn => key v F' H' n rfl ?_⟩
    obtain ⟨a, xs, q1, q2, q3⟩ := hn.list_inv
    exact ⟨a, xs, q1, SqL.of q2, q3⟩
  · cases hm
    exact ⟨G, F, e, _, _, r, h1, fun v F' H' n hn => key v F' H' n rfl hn.ro_inv⟩
  · cases hm
theorem pid_tup {m : M D} (h : PF X ex m) : PId X tg ex (mSeqT m) := PIimp (pi_tup h) fun σ H Q ⟨G, F, e, ds, e', r, hm, q⟩ => by
  obtain ⟨d, e1, h1, hm⟩ := bind_ok2 hm
  simp only at hm
  split at hm
  · cases hm
    refine ⟨G, F, e, _, _, r, h1, fun v F' H' n hn => ?_⟩
    obtain ⟨a, xs, hv, hl, hd⟩ := hn.tuple_inv
    refine ⟨a, hv, ⟨xs, Evl.ex_t n.r.fh hl⟩, q _ F' H' n ?_⟩
    intro i F2 H2 x1 x2
    have hx := x1.trans x2
    refine ⟨fun d hi => ?_, fun hi => ?_⟩
    · obtain ⟨w, h1, h2⟩ := hd.get hi
      refine ⟨⟨xs, w, Evl.ex_t hx hl, h1⟩, fun x H3 y => ?_⟩
      obtain ⟨rfl, y⟩ := y
      have := y xs (Evl.ex_t hx hl)
      rw [h1] at this
      cases this
      exact ⟨F2, Go.refl x2, h2.mono x1⟩
    · exact ⟨xs, Evl.ex_t hx hl, by rw [hd.len]; exact List.getElem?_eq_none_iff.mp hi⟩
  · cases hm
/-- lo, lo + 1, .. -/
def rgD (lo : Int) : Nat → List D
  | 0 => []
  | n + 1 => .int lo :: rgD (lo + 1) n
theorem rgD_get : ∀ (n : Nat) (lo : Int) (i : Nat), i < n → (rgD lo n)[i]? = some (.int (lo + i))
  | 0, _, _, h => absurd h (Nat.not_lt_zero _)
  | n + 1, lo, 0, _ => by simp [rgD]
  | n + 1, lo, i + 1, h => by
    rw [rgD, List.getElem?_cons_succ, rgD_get n (lo + 1) i (by omega)]
    congr 2
    omega
theorem rgD_len : ∀ (n : Nat) (lo : Int), (rgD lo n).length = n
  | 0, _ => rfl
  | n + 1, lo => by rw [rgD, List.length_cons, rgD_len n]
theorem wk_rng (lo : Int) (n : Nat) : Wk K (Itr lo n) F (rgD lo n) := fun i F2 H2 x1 x2 => by
  refine ⟨fun d hi => ?_, fun hi => ?_⟩
  · have hl : i < n := by
      have := (List.getElem?_eq_some_iff.mp hi).1
      rwa [rgD_len] at this
    refine ⟨hl, fun x H3 y => ?_⟩
    obtain ⟨rfl, rfl⟩ := y
    rw [rgD_get n lo i hl] at hi
    cases hi
    exact ⟨F2, Go.refl x2, .int _⟩
  · have := List.getElem?_eq_none_iff.mp hi
    rw [rgD_len] at this
    exact this
def mRng1 (ma : M (List D)) : M (List D) := fun e => (ma e).bind fun p => match p.1 with
  | [.int n] => if -(2 ^ 62) ≤ n ∧ n < 2 ^ 62 then .ok (rgD 0 n.toNat, p.2) else .no
  | _ => .no
def mRng2 (ma : M (List D)) : M (List D) := fun e => (ma e).bind fun p => match p.1 with
  | [.int lo, .int n] => if -(2 ^ 62) ≤ lo ∧ lo < 2 ^ 62 ∧ -(2 ^ 62) ≤ n ∧ n < 2 ^ 62 then .ok (rgD lo (n - lo).toNat, p.2) else .no
  | _ => .no
theorem pid_rng1 {p : Pos} {ma : M (List D)} (hg : Gl X "range") (hm : X.mg "range" = none) (ha : PAd X [ex] ma) (hs : starEach [ex] X.env = [(false, eval ex X.env)] := by rfl) : PId X tg (.Call (.Name "range" p) [ex] [] pos) (mRng1 ma) :=
  PIimp (pi_range1 hg hm ha hs) fun σ H Q ⟨G, F, e, ds, e', r, hm, q⟩ => by
    obtain ⟨d, e1, h1, hm⟩ := bind_ok2 hm
    simp only at hm
    split at hm
    · rename_i n
      obtain ⟨hz, hm⟩ := ite_ok hm
      cases hm
      refine ⟨G, F, e, _, _, r, h1, fun vs F' H' n' hd => ?_⟩
      cases hd with
      | cons g t =>
        cases t
        rw [g.int_inv]
        exact ⟨n, rfl, hz.1, hz.2, q _ F' H' n' (wk_rng 0 n.toNat)⟩
    · cases hm
theorem pid_rng2 {p : Pos} {ma : M (List D)} (hg : Gl X "range") (hm : X.mg "range" = none) (ha : PAd X [ex, ey] ma) (hs : starEach [ex, ey] X.env = [(false, eval ex X.env), (false, eval ey X.env)] := by rfl) (hs2 : starEach [ey] X.env = [(false, eval ey X.env)] := by rfl) : PId X tg (.Call (.Name "range" p) [ex, ey] [] pos) (mRng2 ma) :=
  PIimp (pi_range2 hg hm ha hs hs2) fun σ H Q ⟨G, F, e, ds, e', r, hm, q⟩ => by
    obtain ⟨d, e1, h1, hm⟩ := bind_ok2 hm
    simp only at hm
    split at hm
    · rename_i lo n
      obtain ⟨hz, hm⟩ := ite_ok hm
      cases hm
      refine ⟨G, F, e, _, _, r, h1, fun vs F' H' n' hd => ?_⟩
      cases hd with
      | cons g t =>
        cases t with
        | cons g2 t =>
          cases t
          rw [g.int_inv, g2.int_inv]
          exact ⟨lo, n, rfl, hz, q _ F' H' n' (wk_rng lo _)⟩
    · cases hm
def loopL (t : Tg) (b : En → Out) : List D → En → Out
  | [], e => .nx e
  | d :: ds, e => match t d e with
    | .ok e1 => (match b e1 with
      | .nx e2 => loopL t b ds e2
      | .ct e2 => loopL t b ds e2
      | .bk e2 => .nx e2
      | o => o)
    | _ => .no
def sFor (m : M (List D)) (t : Tg) (b : En → Out) : En → Out := fun e => onR (m e) fun ds e' => loopL t b ds e'
theorem for_ok {m : M (List D)} {t : Tg} {is : List Nat} {b : En → Out} (h : tS K (sFor m t b) E σ H) : tFor (tI K m) (tG K t is) (tS K b) E σ H := by
  obtain ⟨G, F, e, r, hp⟩ := h
  obtain ⟨ds, e1, h1, hp⟩ := onR_inv hp
  refine ⟨G, F, e, ds, e1, r, h1, fun J F0 H0 n wk => ?_⟩
  refine ⟨fun i m σ H => m = ds.length - i ∧ i ≤ ds.length ∧ ∃ F e, R K G F H σ e ∧ Ex F0 F ∧ Post K G F E (loopL t b (ds.drop i) e), ⟨ds.length, by omega, Nat.zero_le _, F0, e1, n.r, Evl.Ex.refl _, by rw [List.drop_zero]; exact Post.ex hp n.go.ff⟩, ?_⟩
  rintro i m σ' H' ⟨rfl, hi, F', e', r', x', hp'⟩
  obtain ⟨w1, w2⟩ := wk i F' H' x' r'.fh
  by_cases hlt : i < ds.length
  · have hd : ds[i]? = some ds[i] := List.getElem?_eq_getElem hlt
    obtain ⟨g1, g2⟩ := w1 _ hd
    rw [List.drop_eq_getElem_cons hlt] at hp'
    refine .inr ⟨g1, fun σ2 H2 => ∃ F e, R K G F H2 σ2 e ∧ Ex F0 F ∧ Post K G F E (loopL t b (ds.drop (i + 1)) e), fun σ2 H2 q => ⟨ds.length - (i + 1), by omega, rfl, hlt, q⟩, fun x H3 y => ?_⟩
    obtain ⟨F3, go, hx⟩ := g2 x H3 y
    have n3 := r'.step go
    unfold loopL at hp'
    split at hp'
    · rename_i e2 ht
      refine ⟨G, F3, e', _, e2, n3.r, hx, ht, fun σ4 r4 _ => ⟨G, F3, e2, r4, ?_⟩⟩
      cases hb : b e2 with
      | nx e3 =>
        rw [hb] at hp'
        exact fun F5 H5 σ5 r5 x5 => ⟨F5, e3, r5, (x'.trans go.ff).trans x5, Post.ex hp' (go.ff.trans x5)⟩
      | ct e3 =>
        rw [hb] at hp'
        exact fun F5 H5 σ5 r5 x5 => ⟨F5, e3, r5, (x'.trans go.ff).trans x5, Post.ex hp' (go.ff.trans x5)⟩
      | bk e3 =>
        rw [hb] at hp'
        exact fun F5 H5 σ5 r5 x5 => hp' F5 H5 σ5 r5 (go.ff.trans x5)
      | rt c e3 =>
        rw [hb] at hp'
        exact fun v F5 H5 σ5 r5 x5 q => hp' v F5 H5 σ5 r5 (go.ff.trans x5) q
      | ex n ds => rw [hb] at hp'; exact hp'.elim
      | no => rw [hb] at hp'; exact hp'.elim
    · exact hp'.elim
  · have e2 : i = ds.length := by omega
    subst e2
    rw [List.drop_length] at hp'
    exact .inl ⟨w2 (List.getElem?_eq_none (Nat.le_refl _)), hp' F' H' σ' r' (Evl.Ex.refl _)⟩
theorem pds_for {m : M (List D)} {t : Tg} {is : List Nat} {b : En → Out} (hp : PassesOwn (model X.prog X.w) X.A X.env X.xe) (hc : X.calm = true) (hi : PId X tg ex m) (hg : PGd X tg t is) (hb : PDs X sts b) (hs : ∀ x, foldedSetIterable ex X.env x = pure x := by intro _; rfl) :
    PDS X (.For tg ex sts [] pos) (sFor m t b) := PSimp (ps_for hp hc hi hg hb hs) fun D σ H h => for_ok h

/-! ### while -/
def wN (t : M Bool) (b : En → Out) : Nat → En → Out
  | 0, _ => .no
  | n + 1, e => match t e with
    | .ok (true, e1) => (match b e1 with
      | .nx e2 => wN t b n e2
      | .ct e2 => wN t b n e2
      | .bk e2 => .nx e2
      | o => o)
    | .ok (false, e1) => .nx e1
    | .ex n ds => .ex n ds
    | .no => .no
theorem wN_mono {t : M Bool} {b : En → Out} : ∀ (n : Nat) (e : En), wN t b n e ≠ .no → wN t b (n + 1) e = wN t b n e
  | 0, e, h => absurd rfl h
  | n + 1, e, h => by
    show wN t b (n + 1 + 1) e = wN t b (n + 1) e
    have e1 : ∀ k, wN t b (k + 1) e = (match t e with
      | .ok (true, e1) => (match b e1 with
        | .nx e2 => wN t b k e2
        | .ct e2 => wN t b k e2
        | .bk e2 => .nx e2
        | o => o)
      | .ok (false, e1) => .nx e1
      | .ex n ds => .ex n ds
      | .no => .no) := fun k => rfl
    rw [e1 n] at h
    rw [e1 (n + 1), e1 n]
    cases ht : t e with
    | ex _ _ => rfl
    | no => rfl
    | ok p =>
      obtain ⟨c, e2⟩ := p
      rw [ht] at h
      cases c with
      | false => rfl
      | true =>
        simp only at h ⊢
        cases hb : b e2 with
        | nx e3 => rw [hb] at h; exact wN_mono n e3 h
        | ct e3 => rw [hb] at h; exact wN_mono n e3 h
        | bk e3 => rfl
        | rt c e3 => rfl
        | ex _ _ => rfl
        | no => rfl
theorem wN_le {t : M Bool} {b : En → Out} {n : Nat} {e : En} (h : wN t b n e ≠ .no) : ∀ k, wN t b (n + k) e = wN t b n e
  | 0 => rfl
  | k + 1 => by
    have ih := wN_le h k
    show wN t b (n + k + 1) e = _
    rw [wN_mono (n + k) e (by rw [ih]; exact h), ih]
open Classical in
noncomputable def sWhile (t : M Bool) (b : En → Out) : En → Out := fun e => if h : ∃ n, wN t b n e ≠ .no then wN t b h.choose e else .no
theorem sWhile_at {t : M Bool} {b : En → Out} {n : Nat} {e : En} (h : wN t b n e ≠ .no) : sWhile t b e = wN t b n e := by
  unfold sWhile
  have hx : ∃ n, wN t b n e ≠ .no := ⟨n, h⟩
  rw [dif_pos hx]
  have h1 := wN_le hx.choose_spec n
  have h2 := wN_le h hx.choose
  rw [← h1, ← h2, Nat.add_comm]
/-- the unfolding -/
theorem sWhile_eq (t : M Bool) (b : En → Out) (e : En) : sWhile t b e = (match t e with
    | .ok (true, e1) => (match b e1 with
      | .nx e2 => sWhile t b e2
      | .ct e2 => sWhile t b e2
      | .bk e2 => .nx e2
      | o => o)
    | .ok (false, e1) => .nx e1
    | .ex n ds => .ex n ds
    | .no => .no) := by
  have e1 : ∀ k, wN t b (k + 1) e = (match t e with
    | .ok (true, e1) => (match b e1 with
      | .nx e2 => wN t b k e2
      | .ct e2 => wN t b k e2
      | .bk e2 => .nx e2
      | o => o)
    | .ok (false, e1) => .nx e1
    | .ex n ds => .ex n ds
    | .no => .no) := fun k => rfl
  cases ht : t e with
  | ex m ds =>
    have := e1 0
    rw [ht] at this
    exact (sWhile_at (n := 1) (by rw [this]; intro z; cases z)).trans this
  | no =>
    show sWhile t b e = .no
    unfold sWhile
    rw [dif_neg]
    rintro ⟨n, hn⟩
    cases n with
    | zero => exact hn rfl
    | succ n => rw [e1 n, ht] at hn; exact hn rfl
  | ok p =>
    obtain ⟨c, e2⟩ := p
    cases c with
    | false =>
      have := e1 0
      rw [ht] at this
      exact (sWhile_at (n := 1) (by rw [this]; intro z; cases z)).trans this
    | true =>
      simp only
      have go : ∀ e3, (∀ k, wN t b (k + 1) e = wN t b k e3) → sWhile t b e = sWhile t b e3 := fun e3 hk => by
        by_cases hx : ∃ n, wN t b n e3 ≠ .no
        · obtain ⟨n, hn⟩ := hx
          rw [sWhile_at hn, sWhile_at (n := n + 1) (by rw [hk n]; exact hn), hk n]
        · have hy : ¬ ∃ n, wN t b n e ≠ .no := fun ⟨n, hn⟩ => by
            cases n with
            | zero => exact hn rfl
            | succ n => exact hx ⟨n, by rw [← hk n]; exact hn⟩
          unfold sWhile
          rw [dif_neg hx, dif_neg hy]
      cases hb : b e2 with
      | nx e3 => exact go e3 fun k => by rw [e1 k, ht]; simp only [hb]
      | ct e3 => exact go e3 fun k => by rw [e1 k, ht]; simp only [hb]
      | bk e3 =>
        have := e1 0
        rw [ht] at this
        simp only [hb] at this
        exact (sWhile_at (n := 1) (by rw [this]; intro z; cases z)).trans this
      | rt c e3 =>
        have := e1 0
        rw [ht] at this
        simp only [hb] at this
        exact (sWhile_at (n := 1) (by rw [this]; intro z; cases z)).trans this
      | ex m ds =>
        have := e1 0
        rw [ht] at this
        simp only [hb] at this
        exact (sWhile_at (n := 1) (by rw [this]; intro z; cases z)).trans this
      | no =>
        show sWhile t b e = .no
        unfold sWhile
        rw [dif_neg]
        rintro ⟨n, hn⟩
        cases n with
        | zero => exact hn rfl
        | succ n =>
          rw [e1 n, ht] at hn
          simp only [hb] at hn
          exact hn rfl
theorem while_ok {t : M Bool} {b : En → Out} (h : tS K (sWhile t b) E σ H) : tWhile (tT K t) (tS K b) E σ H := by
  obtain ⟨G, F0, e0, r0, hp0⟩ := h
  have hx : ∃ n, wN t b n e0 ≠ .no := by
    by_cases hx : ∃ n, wN t b n e0 ≠ .no
    · exact hx
    · unfold sWhile at hp0
      rw [dif_neg hx] at hp0
      exact hp0.elim
  obtain ⟨n0, hn0⟩ := hx
  rw [sWhile_at hn0] at hp0
  refine ⟨fun n σ H => ∃ F e, R K G F H σ e ∧ Ex F0 F ∧ Post K G F E (wN t b n e), ⟨n0, F0, e0, r0, Evl.Ex.refl _, hp0⟩, ?_⟩
  rintro n σ1 H1 ⟨F1, e1, r1, x1, hp⟩
  cases n with
  | zero => exact hp.elim
  | succ n =>
    unfold wN at hp
    split at hp
    · rename_i e2 ht
      refine ⟨G, F1, e1, true, e2, r1, ht, fun F' H' nx => ?_⟩
      refine (if_pos rfl).mpr ⟨fun σ H => ∃ F e, R K G F H σ e ∧ Ex F0 F ∧ Post K G F E (wN t b n e), fun σ' H' q => ⟨n, Nat.lt_succ_self n, q⟩, G, F', e2, nx.r, ?_⟩
      cases hb : b e2 with
      | nx e3 =>
        rw [hb] at hp
        exact fun F5 H5 σ5 r5 x5 => ⟨F5, e3, r5, (x1.trans nx.go.ff).trans x5, Post.ex hp (nx.go.ff.trans x5)⟩
      | ct e3 =>
        rw [hb] at hp
        exact fun F5 H5 σ5 r5 x5 => ⟨F5, e3, r5, (x1.trans nx.go.ff).trans x5, Post.ex hp (nx.go.ff.trans x5)⟩
      | bk e3 =>
        rw [hb] at hp
        exact fun F5 H5 σ5 r5 x5 => hp F5 H5 σ5 r5 (nx.go.ff.trans x5)
      | rt c e3 =>
        rw [hb] at hp
        exact fun v F5 H5 σ5 r5 x5 q => hp v F5 H5 σ5 r5 (nx.go.ff.trans x5) q
      | ex n ds => rw [hb] at hp; exact hp.elim
      | no => rw [hb] at hp; exact hp.elim
    · rename_i e2 ht
      refine ⟨G, F1, e1, false, e2, r1, ht, fun F' H' nx => ?_⟩
      exact (if_neg Bool.false_ne_true).mpr (hp F' H' σ1 nx.r nx.go.ff)
    · exact hp.elim
    · exact hp.elim
theorem pds_while {t : M Bool} {b : En → Out} (hp : PassesOwn (model X.prog X.w) X.A X.env X.xe) (hc : PTd X ex t) (hb : PDs X sts b) : PDS X (.While ex sts [] pos) (sWhile t b) := PSimp (ps_while hp hc hb) fun D σ H h => while_ok h
end
end DL

namespace DL
open PySem L2 PyProof.Rows

/-! ### what a def promises -/
abbrev Sf := List Ce → Rs (Ce × List Ce)
inductive CsAt (K : PySem.W.Frag) (F H : Hp) : Nat → List Ce → List V → List (Nat × Addr) → Prop where
  | nil {n : Nat} : CsAt K F H n [] [] []
  | f {n : Nat} {v : V} {d : D} {cs : List Ce} {vs : List V} {io : List (Nat × Addr)} : Dn K F v d → CsAt K F H (n + 1) cs vs io → CsAt K F H n (.f d :: cs) (v :: vs) io
  | o {n : Nat} {a : Addr} {c : Ce} {o : HO} {xs : List V} {cs : List Ce} {vs : List V} {io : List (Nat × Addr)} : c.io = true → F a = none → H a = some o → CeO o c xs → DnA K F xs c.mem → CsAt K F H (n + 1) cs vs io →
      CsAt K F H n (c :: cs) (.ref a :: vs) ((n, a) :: io)
inductive OutAt (K : PySem.W.Frag) (F H : Hp) : List Addr → List Ce → Prop where
  | nil : OutAt K F H [] []
  | cons {a : Addr} {c : Ce} {o : HO} {xs : List V} {as : List Addr} {cs : List Ce} : F a = none → H a = some o → CeO o c xs → DnA K F xs c.mem → OutAt K F H as cs → OutAt K F H (a :: as) (c :: cs)
def spD (K : PySem.W.Frag) (S : Sf) : Sp := fun vs H Q _ => ∃ F cs c outs io, Ex F H ∧ CsAt K F H 0 cs vs io ∧ (io.map (·.2)).Nodup ∧ S cs = .ok (c, outs) ∧
  ∀ v F' H', Go F H F' H' (· ∈ io.map (·.2)) → NAt K H F' H' c v → OutAt K F' H' (io.map (·.2)) outs → Q v H'
def owIx : Nat → List Ce → List Nat
  | _, [] => []
  | n, c :: cs => match c with
    | .f _ => owIx (n + 1) cs
    | _ => n :: owIx (n + 1) cs
def outsAt : List Nat → En → Rs (List Ce)
  | [], _ => .ok []
  | i :: is, e => match e[i]? with
    | some (some c) => if c.io = true then (outsAt is e).bind fun cs => .ok (c :: cs) else .no
    | _ => .no
def startE (n : Nat) (cs : List Ce) : En := cs.map some ++ List.replicate (n - cs.length) none
def runD (n : Nat) (m : En → Out) (cs : List Ce) : Rs (Ce × List Ce) := match m (startE n cs) with
  | .rt c e => (outsAt (owIx 0 cs) e).bind fun os => .ok (c, os)
  | .nx e => (outsAt (owIx 0 cs) e).bind fun os => .ok (.f .none, os)
  | .ex n ds => .ex n ds
  | _ => .no
section
variable {K : PySem.W.Frag} {F H F' H' : Hp}
theorem CsAt.len : ∀ {n : Nat} {cs : List Ce} {vs : List V} {io : List (Nat × Addr)}, CsAt K F H n cs vs io → cs.length = vs.length
  | _, _, _, _, .nil => rfl
  | _, _, _, _, .f _ t => congrArg (· + 1) (CsAt.len t)
  | _, _, _, _, .o _ _ _ _ _ t => congrArg (· + 1) (CsAt.len t)
theorem CsAt.ix : ∀ {n : Nat} {cs : List Ce} {vs : List V} {io : List (Nat × Addr)}, CsAt K F H n cs vs io → io.map (·.1) = owIx n cs
  | _, _, _, _, .nil => rfl
  | _, _, _, _, .f _ t => by unfold owIx; exact CsAt.ix t
  | _, _, _, _, .o (c := c) h _ _ ho _ t => by
    cases c with
    | f d => exact ho.elim
    | l p ds => unfold owIx; rw [List.map_cons, CsAt.ix t]
    | k p t0 ks vs => unfold owIx; rw [List.map_cons, CsAt.ix t]
theorem CsAt.le : ∀ {n : Nat} {cs : List Ce} {vs : List V} {io : List (Nat × Addr)}, CsAt K F H n cs vs io → ∀ p ∈ io, n ≤ p.1
  | _, _, _, _, .nil, _, h => nomatch h
  | _, _, _, _, .f _ t, p, h => by have := CsAt.le t p h; omega
  | _, _, _, _, .o _ _ _ _ _ t, p, h => by
    rcases List.mem_cons.mp h with rfl | h
    · exact Nat.le_refl _
    · have := CsAt.le t p h; omega
/-- what a parameter's slot holds at the entry -/
theorem CsAt.at : ∀ {n : Nat} {cs : List Ce} {vs : List V} {io : List (Nat × Addr)}, CsAt K F H n cs vs io → ∀ (i : Nat) (c : Ce), cs[i]? = some c → ∃ v, vs[i]? = some v ∧
    ((∃ d, c = .f d ∧ Dn K F v d) ∨ ∃ a o xs, v = .ref a ∧ c.io = true ∧ F a = none ∧ H a = some o ∧ CeO o c xs ∧ DnA K F xs c.mem ∧ (n + i, a) ∈ io)
  | _, _, _, _, .nil, i, c, h => by simp at h
  | _, _, _, _, .f hd t, 0, c, h => by
    simp at h
    subst h
    exact ⟨_, by simp, .inl ⟨_, rfl, hd⟩⟩
  | n, _, _, _, .f hd t, i + 1, c, h => by
    simp at h
    obtain ⟨v, h1, h2⟩ := CsAt.at t i c h
    refine ⟨v, by simpa using h1, ?_⟩
    rcases h2 with h2 | ⟨a, o, xs, q1, q2, q3, q4, q5, q6, q7⟩
    · exact .inl h2
    · exact .inr ⟨a, o, xs, q1, q2, q3, q4, q5, q6, by rw [show n + (i + 1) = n + 1 + i by omega]; exact q7⟩
  | n, _, _, _, .o h1 h2 h3 h4 h5 t, 0, c, h => by
    simp at h
    subst h
    exact ⟨_, by simp, .inr ⟨_, _, _, rfl, h1, h2, h3, h4, h5, by simp⟩⟩
  | n, _, _, _, .o h1 h2 h3 h4 h5 t, i + 1, c, h => by
    simp at h
    obtain ⟨v, g1, g2⟩ := CsAt.at t i c h
    refine ⟨v, by simpa using g1, ?_⟩
    rcases g2 with h2 | ⟨a, o, xs, q1, q2, q3, q4, q5, q6, q7⟩
    · exact .inl h2
    · exact .inr ⟨a, o, xs, q1, q2, q3, q4, q5, q6, List.mem_cons_of_mem _ (by rw [show n + (i + 1) = n + 1 + i by omega]; exact q7)⟩
theorem CsAt.ios : ∀ {n : Nat} {cs : List Ce} {vs : List V} {io : List (Nat × Addr)}, CsAt K F H n cs vs io → ∀ p ∈ io, ∃ i, p.1 = n + i ∧ vs[i]? = some (.ref p.2) ∧ ∃ c, cs[i]? = some c ∧ c.io = true
  | _, _, _, _, .nil, _, h => nomatch h
  | n, _, _, _, .f _ t, p, h => by
    obtain ⟨i, h1, h2, c, h3, h4⟩ := CsAt.ios t p h
    exact ⟨i + 1, by omega, by simpa using h2, c, by simpa using h3, h4⟩
  | n, _, _, _, .o q _ _ _ _ t, p, h => by
    rcases List.mem_cons.mp h with rfl | h
    · exact ⟨0, rfl, by simp, _, by simp, q⟩
    · obtain ⟨i, h1, h2, c, h3, h4⟩ := CsAt.ios t p h
      exact ⟨i + 1, by omega, by simpa using h2, c, by simpa using h3, h4⟩
theorem nd_snd {io : List (Nat × Addr)} (h : (io.map (·.2)).Nodup) {i j : Nat} {a : Addr} (h1 : (i, a) ∈ io) (h2 : (j, a) ∈ io) : i = j := by
  induction io with
  | nil => cases h1
  | cons p io ih =>
    rw [List.map_cons, List.nodup_cons] at h
    rcases List.mem_cons.mp h1 with e1 | h1'
    · rcases List.mem_cons.mp h2 with e2 | h2'
      · rw [← e2] at e1
        exact congrArg Prod.fst e1
      · exfalso
        apply h.1
        rw [← e1]
        exact List.mem_map_of_mem (f := (·.2)) h2'
    · rcases List.mem_cons.mp h2 with e2 | h2'
      · exfalso
        apply h.1
        rw [← e2]
        exact List.mem_map_of_mem (f := (·.2)) h1'
      · exact ih h.2 h1' h2'
theorem start_at {N : List Str} {vs : List V} {i : Nat} {v : V} (h : vs[i]? = some v) : (L2.start N vs)[i]? = some (some v) := by
  unfold L2.start
  have hl : i < vs.length := (List.getElem?_eq_some_iff.mp h).1
  rw [List.getElem?_append_left (by simpa using hl), List.getElem?_map, h]
  rfl
theorem startE_at {n i : Nat} {cs : List Ce} {c : Ce} (h : (startE n cs)[i]? = some (some c)) : cs[i]? = some c := by
  unfold startE at h
  by_cases hl : i < cs.length
  · rw [List.getElem?_append_left (by simpa using hl), List.getElem?_map] at h
    cases q : cs[i]? with
    | none => rw [q] at h; cases h
    | some c' => rw [q] at h; simpa using h
  · rw [List.getElem?_append_right (by simpa using Nat.le_of_not_lt hl)] at h
    have := List.mem_of_getElem? h
    rw [List.mem_replicate] at this
    cases this.2
/-- the state at the entry -/
theorem R.start {N : List Str} {cs : List Ce} {vs : List V} {io : List (Nat × Addr)} (e : Ex F H) (h : CsAt K F H 0 cs vs io) (hn : (io.map (·.2)).Nodup) (hN : vs.length ≤ N.length) : R K ⟨F, H, io⟩ F H (L2.start N vs) (startE N.length cs) := by
  refine ⟨Go.refl e, e, fun i c q => ?_, fun i j c c' a hij h1 h2 o1 o2 s1 s2 => ?_, fun p hp => ?_, ?_⟩
  · obtain ⟨v, h1, h2⟩ := h.at i c (startE_at q)
    refine ⟨v, start_at h1, ?_⟩
    rcases h2 with h2 | ⟨a, o, xs, rfl, q2, q3, q4, q5, q6, q7⟩
    · exact .inl h2
    · exact .inr ⟨a, o, xs, rfl, q3, q4, q5, q6, fun _ => by simpa using q7, fun z => by rw [q2] at z; cases z⟩
  · obtain ⟨v, g1, g2⟩ := h.at i c (startE_at h1)
    obtain ⟨v', g1', g2'⟩ := h.at j c' (startE_at h2)
    rw [start_at g1] at s1
    rw [start_at g1'] at s2
    cases s1
    cases s2
    rcases g2 with ⟨d, rfl, _⟩ | ⟨b, o, xs, q1, q2, q3, q4, q5, q6, q7⟩
    · cases o1
    · rcases g2' with ⟨d, rfl, _⟩ | ⟨b', o', xs', r1, r2, r3, r4, r5, r6, r7⟩
      · cases o2
      · cases q1
        cases r1
        exact hij (by simpa using nd_snd hn q7 r7)
  · obtain ⟨i, h1, h2, c, h3, h4⟩ := h.ios p hp
    have e1 : p.1 = i := by omega
    refine ⟨by rw [e1]; exact start_at h2, c, ?_, h4⟩
    rw [e1]
    unfold startE
    have hl : i < cs.length := (List.getElem?_eq_some_iff.mp h3).1
    rw [List.getElem?_append_left (by simpa using hl), List.getElem?_map, h3]
    rfl
  · have := h.len
    unfold startE L2.start
    simp
    omega
/-- what was handed in, at the end -/
theorem R.outs {G : Bs} {σ : L2.St} {e : En} (r : R K G F H σ e) : ∀ (io : List (Nat × Addr)) (os : List Ce), (∀ p ∈ io, p ∈ G.io) → outsAt (io.map (·.1)) e = .ok os → OutAt K F H (io.map (·.2)) os
  | [], os, _, h => by cases h; exact .nil
  | p :: io, os, hp, h => by
    rw [List.map_cons] at h
    unfold outsAt at h
    split at h
    · rename_i c q
      obtain ⟨hio, h⟩ := ite_ok h
      obtain ⟨cs, h1, h2⟩ := Rs.bind_eq h
      cases h2
      obtain ⟨v, g1, g2⟩ := r.at_ p.1 c q
      have := (r.io p (hp p List.mem_cons_self)).1
      rw [this] at g1
      cases g1
      rcases g2 with ⟨d, rfl, _⟩ | ⟨b, o, xs, q1, q2, q3, q4, q5, _⟩
      · cases hio
      · cases q1
        rw [List.map_cons]
        exact .cons q2 q3 q4 q5 (R.outs r io cs (fun p' hp' => hp p' (List.mem_cons_of_mem _ hp')) h1)
    · cases h
end
/-- a def's body in its context -/
abbrev XX (P : Program) (w : World) (K : PySem.W.Frag) (mg : Str → Option Value) (base : Heap) (N : List Str) (qual : Str) (sc : Scope) (f : Addr) (cdv : Value) (A : Around) (outer : List PySem.Env) (s : Shared) (H : Hp) (E : XK) : Cx :=
  (cxOf CX0 P w K mg base N qual sc f cdv A outer s H E).nox
section
variable {P : Program} {w : World} {K : PySem.W.Frag} {mg : Str → Option Value} {base : Heap}
abbrev FnD (P : Program) (w : World) (K : PySem.W.Frag) (mg : Str → Option Value) (base : Heap) (k : Nat) (f : Addr) (fd : FuncData) (ps : List Str) (S : Sf) : Prop := FnOk P w K mg base CX0 k f fd ps (spD K S)
theorem fnD_ok {x qual : Str} {st : Stmt} {f : Addr} {fd : FuncData} {N ps : List Str} {k : Nat} {S : Sf} (F : Fun K x qual st f fd) (Sc : FnScope N ps (defScope st)) (hN : ps.length ≤ N.length) (m : En → Out)
    (hb : ∀ (cdv : Value) (A : Around) (outer : List PySem.Env) (s : Shared) (H : Hp) (E : XK), Room k (A.deeper (envOfC qual (defScope st) s.heap.objs.size f cdv)) → PDs (XX P w K mg base N qual (defScope st) f cdv A outer s H E) (defBody st) m)
    (hS : ∀ cs c outs, S cs = .ok (c, outs) → cs.length = ps.length ∧ runD N.length m cs = .ok (c, outs)) : FnD P w K mg base (k + 1) f fd ps S := by
  refine F.ok Sc (fun vs H Q E h => ?_) (fun cdv A outer s H vs Q E hr h => ?_)
  · obtain ⟨F0, cs, c, outs, io, _, h1, _, h2, _⟩ := h
    rw [← h1.len]
    exact (hS cs c outs h2).1
  · obtain ⟨F0, cs, c, outs, io, he, h1, hn, h2, q⟩ := h
    obtain ⟨hl, hm⟩ := hS cs c outs h2
    refine ⟨_, hb cdv A outer s H E hr, ⟨F0, H, io⟩, F0, startE N.length cs, R.start he h1 hn (by rw [← h1.len, hl]; exact hN), ?_⟩
    unfold runD at hm
    have gms : ∀ b, Bs.ms ⟨F0, H, io⟩ b → b ∈ io.map (·.2) := fun b ⟨i, hi⟩ => List.mem_map_of_mem (f := (·.2)) hi
    split at hm
    · rename_i c' e' hq
      obtain ⟨os, g1, g2⟩ := Rs.bind_eq hm
      cases g2
      rw [hq]
      intro v F' H' σ' r x rt
      rw [← h1.ix] at g1
      exact q v F' H' (r.go.mono gms) rt (r.outs io _ (fun _ h => h) g1)
    · rename_i e' hq
      obtain ⟨os, g1, g2⟩ := Rs.bind_eq hm
      cases g2
      rw [hq]
      intro F' H' σ' r x
      rw [← h1.ix] at g1
      exact q .non F' H' (r.go.mono gms) (.inl ⟨_, rfl, .non⟩) (r.outs io _ (fun _ h => h) g1)
    · cases hm
    · cases hm
theorem FnD.imp {k : Nat} {f : Addr} {fd : FuncData} {ps : List Str} {S S' : Sf} (F : FnD P w K mg base k f fd ps S) (h : ∀ cs r, S' cs = .ok r → S cs = .ok r) : FnD P w K mg base k f fd ps S' :=
  FnOk.imp F fun vs H Q E ⟨F0, cs, c, outs, io, h1, h2, h3, h4, h5⟩ => ⟨F0, cs, c, outs, io, h1, h2, h3, h _ _ h4, h5⟩
end

/-! ### a call -/
/-- an argument: data, or a slot whose object the callee may change -/
inductive Ag where
  | d (d : D) | s (i : Nat)
def AgAt (K : PySem.W.Frag) (σ : L2.St) (F : Hp) (e : En) : Ag → V → Prop
  | .d d, v => Dn K F v d
  | .s i, v => σ[i]? = some (some v) ∧ ∃ c : Ce, e[i]? = some (some c) ∧ c.ow = true
inductive AgsAt (K : PySem.W.Frag) (σ : L2.St) (F : Hp) (e : En) : List Ag → List V → Prop where
  | nil : AgsAt K σ F e [] []
  | cons {a : Ag} {as : List Ag} {v : V} {vs : List V} : AgAt K σ F e a v → AgsAt K σ F e as vs → AgsAt K σ F e (a :: as) (v :: vs)
def tAg (K : PySem.W.Frag) (m : M (List Ag)) : TA := fun σ H Q => ∃ G F e as e', R K G F H σ e ∧ m e = .ok (as, e') ∧ ∀ vs F' H', Nx K G σ F H e F' H' e' → AgsAt K σ F' e' as vs → Q vs H'
abbrev PAg (X : Cx) (es : List Expr) (m : M (List Ag)) : Prop := PA X es (tAg X.K m)
def aD (m : M D) : M Ag := fun e => (m e).bind fun p => .ok (.d p.1, p.2)
def aS (i : Nat) : M Ag := fun e => match e[i]? with
  | some (some c) => if c.ow = true then .ok (.s i, e) else .no
  | _ => .no
def agCells : List Ag → En → Rs (List Ce)
  | [], _ => .ok []
  | .d d :: as, e => (agCells as e).bind fun cs => .ok (.f d :: cs)
  | .s i :: as, e => match e[i]? with
    | some (some c) => (agCells as e).bind fun cs => .ok (c.lent :: cs)
    | _ => .no
def agSlots : List Ag → List Nat
  | [] => []
  | .d _ :: as => agSlots as
  | .s i :: as => i :: agSlots as
def putBack : List Nat → List Ce → En → Rs En
  | [], [], e => .ok e
  | i :: is, c :: cs, e => match e[i]?, c with
    | some (some (.l p _)), .l _ ds => putBack is cs (e.set i (some (.l p ds)))
    | some (some (.k p t _ _)), .k _ t' ks vs => if t = t' then putBack is cs (e.set i (some (.k p t' ks vs))) else .no
    | _, _ => .no
  | _, _, _ => .no
def mCall (S : Sf) (ma : M (List Ag)) : M Ce := fun e => (ma e).bind fun p => (agCells p.1 p.2).bind fun cs => if (agSlots p.1).Nodup then (S cs).bind fun r => (putBack (agSlots p.1) r.2 p.2).bind fun e' => .ok (r.1, e') else .no
section
variable {X : Cx} {K : PySem.W.Frag} {G : Bs} {F F1 H H1 F2 H2 : Hp} {σ : L2.St} {e e1 : En} {v : V} {c : Ce} {d : D} {i : Nat} {a : Addr}
variable {ex ey : Expr} {es : List Expr} {pos p : Pos} {x : Str}
theorem AgAt.nx {g : Ag} (n : Nx K G σ F H e F1 H1 e1) (h : AgAt K σ F e g v) : AgAt K σ F1 e1 g v := by
  cases g with
  | d d => exact n.dn h
  | s i =>
    obtain ⟨h1, c, h2, h3⟩ := h
    obtain ⟨c', h4, h5⟩ := sh_at n.sh h2
    exact ⟨h1, c', h4, by rw [(kd_ow h5).1]; exact h3⟩
theorem pag_nil : PAg X [] aNil := PAimp pa_nil fun σ H Q ⟨G, F, e, d, e', r, hm, q⟩ => by
  cases hm
  exact q [] F H (Nx.refl r) .nil
theorem pag_cons {m : M D} {ms : M (List Ag)} (ha : PF X ex m) (hr : PAg X es ms) (hs : starEach (ex :: es) X.env = (false, eval ex X.env) :: starEach es X.env := by rfl) : PAg X (ex :: es) (aCons (aD m) ms) := PAimp (pa_cons ha hr hs) fun σ H Q ⟨G, F, e, d, e', r, hm, q⟩ => by
  obtain ⟨x, e1, h1, hm⟩ := bind_ok2 hm
  obtain ⟨y, e2, h2, hm⟩ := bind_ok2 hm
  cases hm
  obtain ⟨d, e3, h3, h4⟩ := bind_ok2 h1
  cases h4
  exact ⟨G, F, e, d, _, r, h3, fun v F1 H1 n1 hd => ⟨G, F1, _, y, e2, n1.r, h2, fun vs F2 H2 n2 hds => q (v :: vs) F2 H2 (n1.trans n2) (.cons (n2.dn hd) hds)⟩⟩
theorem pag_conS {ms : M (List Ag)} (ha : PE X ex (tVar i)) (hr : PAg X es ms) (hs : starEach (ex :: es) X.env = (false, eval ex X.env) :: starEach es X.env := by rfl) : PAg X (ex :: es) (aCons (aS i) ms) := PAimp (pa_cons ha hr hs) fun σ H Q ⟨G, F, e, d, e', r, hm, q⟩ => by
  obtain ⟨x, e1, h1, hm⟩ := bind_ok2 hm
  obtain ⟨y, e2, h2, hm⟩ := bind_ok2 hm
  cases hm
  unfold aS at h1
  split at h1
  · rename_i c hc
    obtain ⟨ho, h1⟩ := ite_ok h1
    cases h1
    obtain ⟨v, g1, g2⟩ := r.at_ i c hc
    refine ⟨v, g1, G, F, _, y, e2, r, h2, fun vs F2 H2 n2 hds => q (v :: vs) F2 H2 n2 (.cons ?_ hds)⟩
    exact AgAt.nx (g := .s i) n2 ⟨g1, c, hc, ho⟩
  · cases h1
/-- the state goes on, the slots as told -/
theorem R.next (r : R K G F H σ e) (go : Go F H F1 H1 (Lv σ e)) (sh : e1.map (Option.map Ce.kd) = e.map (Option.map Ce.kd)) (hat : ∀ (i : Nat) (c : Ce), e1[i]? = some (some c) → ∃ v, σ[i]? = some (some v) ∧ At K G F1 H1 i c v) : Nx K G σ F H e F1 H1 e1 := by
  refine ⟨⟨?_, r.ba, hat, fun i j c c' a hij h1 h2 o1 o2 s1 => ?_, fun p hp => ?_, ?_⟩, go, sh⟩
  · refine ⟨r.go.ff.trans go.ff, fun b o hb hn => ?_, go.fh, fun b h1 h2 => ?_⟩
    · refine go.hh b o (r.go.hh b o hb hn) fun ⟨i, c, h1, h2, h3⟩ => ?_
      obtain ⟨v, g1, g2⟩ := r.at_ i c h1
      rw [h3] at g1
      cases g1
      obtain ⟨a, u, xs, q, _, _, _, _, q5, q6⟩ := g2.own h2
      cases q
      cases hio : c.io with
      | true => exact hn ⟨i, q5 hio⟩
      | false => rw [q6 hio] at hb; cases hb
    · obtain ⟨p, q⟩ := r.go.st b h1 h2
      exact go.st b p q
  · obtain ⟨d1, g1, w1⟩ := sh_at sh.symm h1
    obtain ⟨d2, g2, w2⟩ := sh_at sh.symm h2
    exact r.sep i j d1 d2 a hij g1 g2 (by rw [(kd_ow w1).1]; exact o1) (by rw [(kd_ow w2).1]; exact o2) s1
  · obtain ⟨h1, c, h2, h3⟩ := r.io p hp
    obtain ⟨c', g1, w1⟩ := sh_at sh h2
    exact ⟨h1, c', g1, by rw [(kd_ow w1).2]; exact h3⟩
  · have := congrArg List.length sh
    simp only [List.length_map] at this
    rw [this]
    exact r.len
theorem lent_io {c : Ce} (h : c.ow = true) : c.lent.io = true := by cases c <;> first | rfl | cases h
theorem lent_mem (c : Ce) : c.lent.mem = c.mem := by cases c <;> rfl
theorem lent_ceO {o : HO} {c : Ce} {xs : List V} (h : CeO o c xs) : CeO o c.lent xs := by cases c <;> exact h
/-- the arguments as the callee finds them -/
theorem ags_cells (r : R K G F H σ e) : ∀ {as : List Ag} {vs : List V} {cs : List Ce} (n : Nat), AgsAt K σ F e as vs → agCells as e = .ok cs → ∃ io : List (Nat × Addr), CsAt K F H n cs vs io ∧ io.length = (agSlots as).length ∧
    ∀ (k : Nat) (i : Nat) (b : Addr), (agSlots as)[k]? = some i → (io.map (·.2))[k]? = some b → σ[i]? = some (some (.ref b)) ∧ Lv σ e b
  | _, _, _, n, .nil, h => by
    cases h
    exact ⟨[], .nil, rfl, fun k i b h => by simp [agSlots] at h⟩
  | _, _, _, n, .cons (a := .d d) hd t, h => by
    obtain ⟨cs, h1, h2⟩ := Rs.bind_eq h
    cases h2
    obtain ⟨io, g1, g2, g3⟩ := ags_cells r (n + 1) t h1
    exact ⟨io, .f hd g1, g2, g3⟩
  | _, _, _, n, .cons (a := .s i) hd t, h => by
    obtain ⟨s1, c, s2, s3⟩ := hd
    unfold agCells at h
    rw [s2] at h
    obtain ⟨cs, h1, h2⟩ := Rs.bind_eq h
    cases h2
    obtain ⟨io, g1, g2, g3⟩ := ags_cells r (n + 1) t h1
    obtain ⟨w, z1, z2⟩ := r.at_ i c s2
    rw [s1] at z1
    cases z1
    obtain ⟨a, o, xs, rfl, q1, q2, q3, q4, _⟩ := z2.own s3
    refine ⟨(n, a) :: io, .o (lent_io s3) q1 q2 (lent_ceO q3) (by rw [lent_mem]; exact q4) g1, by unfold agSlots; simp [g2], fun k j b hk hb => ?_⟩
    unfold agSlots at hk
    cases k with
    | zero =>
      simp at hk hb
      subst hk hb
      exact ⟨s1, i, c, s2, s3, s1⟩
    | succ k => exact g3 k j b (by simpa using hk) (by simpa using hb)
theorem nodup_of {α : Type} {l : List α} (h : ∀ (i j : Nat) (x : α), l[i]? = some x → l[j]? = some x → i = j) : l.Nodup := by
  induction l with
  | nil => exact List.nodup_nil
  | cons y l ih =>
    refine List.nodup_cons.mpr ⟨fun hy => ?_, ih fun i j x h1 h2 => ?_⟩
    · obtain ⟨k, hk, e⟩ := List.mem_iff_getElem.mp hy
      have := h 0 (k + 1) y (by simp) (by simp [hk, e])
      omega
    · have := h (i + 1) (j + 1) x (by simpa using h1) (by simpa using h2)
      omega
theorem nodup_ix' {α : Type} {l : List α} (h : l.Nodup) {i j : Nat} {x : α} (h1 : l[i]? = some x) (h2 : l[j]? = some x) : i = j := by
  obtain ⟨l1, e1⟩ := List.getElem?_eq_some_iff.mp h1
  obtain ⟨l2, e2⟩ := List.getElem?_eq_some_iff.mp h2
  exact (List.getElem_inj h).mp (e1.trans e2.symm)
/-- what the slots hold behind a call -/
theorem putBack_at : ∀ {is : List Nat} {os : List Ce} {as : List Addr} {e e' : En}, is.Nodup → putBack is os e = .ok e' → OutAt K F1 H1 as os →
    e'.map (Option.map Ce.kd) = e.map (Option.map Ce.kd) ∧ ∀ (i : Nat) (c : Ce), e'[i]? = some (some c) → (i ∉ is ∧ e[i]? = some (some c)) ∨
      ∃ (k : Nat) (b : Addr) (o : HO) (xs : List V), is[k]? = some i ∧ as[k]? = some b ∧ F1 b = none ∧ H1 b = some o ∧ CeO o c xs ∧ DnA K F1 xs c.mem
  | [], os, as, e, e', _, h, ho => by
    cases os with
    | nil =>
      cases h
      exact ⟨rfl, fun i c q => .inl ⟨by simp, q⟩⟩
    | cons _ _ => cases h
  | i :: is, os, as, e, e', hn, h, ho => by
    cases ho with
    | nil => cases h
    | @cons a c o xs as cs q1 q2 q3 q4 ho =>
      obtain ⟨n1, n2⟩ := List.nodup_cons.mp hn
      -- one slot, then the others
      have key : ∀ c0 c1 : Ce, e[i]? = some (some c0) → c1.kd = c0.kd → CeO o c1 xs → DnA K F1 xs c1.mem → putBack is cs (e.set i (some c1)) = .ok e' →
          e'.map (Option.map Ce.kd) = e.map (Option.map Ce.kd) ∧ ∀ (j : Nat) (c : Ce), e'[j]? = some (some c) → (j ∉ i :: is ∧ e[j]? = some (some c)) ∨
            ∃ (k : Nat) (b : Addr) (o : HO) (xs : List V), (i :: is)[k]? = some j ∧ (a :: as)[k]? = some b ∧ F1 b = none ∧ H1 b = some o ∧ CeO o c xs ∧ DnA K F1 xs c.mem := by
        intro c0 c1 h0 hk hc hm h
        obtain ⟨g1, g2⟩ := putBack_at n2 h ho
        refine ⟨g1.trans (set_kd h0 hk), fun j c hj => ?_⟩
        rcases g2 j c hj with ⟨z1, z2⟩ | ⟨k, b, o, xs, z1, z2, z3⟩
        · by_cases hji : j = i
          · subst hji
            rw [List.getElem?_set_self (List.getElem?_eq_some_iff.mp h0).1] at z2
            cases z2
            exact .inr ⟨0, a, o, xs, by simp, by simp, q1, q2, hc, hm⟩
          · rw [List.getElem?_set_ne (Ne.symm hji)] at z2
            exact .inl ⟨by simp [hji, z1], z2⟩
        · exact .inr ⟨k + 1, b, o, xs, by simpa using z1, by simpa using z2, z3⟩
      unfold putBack at h
      split at h
      · rename_i p ds0 p' ds h0
        exact key (.l p ds0) (.l p ds) h0 (by cases p <;> rfl) q3 q4 h
      · rename_i p t1 ks0 vs0 p' t0 ks vs h0
        obtain ⟨ht, h⟩ := ite_ok h
        exact key (.k p _ ks0 vs0) (.k p _ ks vs) h0 (by rw [ht]; cases p <;> cases t0 <;> rfl) q3 q4 h
      · cases h
theorem call_ok {S : Sf} {ma : M (List Ag)} {H : Hp} {Q : VK} (h : tN K (mCall S ma) σ H Q) : tCall (spD K S) [] E0 (tAg K ma) σ H Q := by
  obtain ⟨G, F, e, c, e', r, hm, q⟩ := h
  obtain ⟨as, e1, h1, hm⟩ := bind_ok2 hm
  obtain ⟨cs, h2, hm⟩ := Rs.bind_eq hm
  obtain ⟨hnd, hm⟩ := ite_ok hm
  obtain ⟨⟨c', os⟩, h3, hm⟩ := Rs.bind_eq hm
  obtain ⟨e2, h4, hm⟩ := Rs.bind_eq hm
  cases hm
  refine ⟨G, F, e, as, e1, r, h1, fun vs F1 H1 n ha => ?_⟩
  show spD K S (vs ++ []) H1 Q E0
  rw [List.append_nil]
  obtain ⟨io, g1, g2, g3⟩ := ags_cells n.r 0 ha h2
  have gk : ∀ (k : Nat) (b : Addr), (io.map (·.2))[k]? = some b → ∃ i, (agSlots as)[k]? = some i ∧ σ[i]? = some (some (.ref b)) ∧ Lv σ e1 b := fun k b hk => by
    have hl : k < (agSlots as).length := by
      have := (List.getElem?_eq_some_iff.mp hk).1
      rw [List.length_map, g2] at this
      exact this
    refine ⟨(agSlots as)[k], List.getElem?_eq_getElem hl, ?_⟩
    exact g3 k _ b (List.getElem?_eq_getElem hl) hk
  have hn2 : (io.map (·.2)).Nodup := nodup_of fun k j b hk hj => by
    obtain ⟨i1, s1, s2, l1⟩ := gk k b hk
    obtain ⟨i2, s3, s4, l2⟩ := gk j b hj
    by_cases hi : i1 = i2
    · subst hi
      exact nodup_ix' hnd s1 s3
    · exfalso
      have own : ∀ (k : Nat) (b : Addr) (i : Nat), (agSlots as)[k]? = some i → ∃ c : Ce, e1[i]? = some (some c) ∧ c.ow = true := by
        have go : ∀ {as : List Ag} {vs : List V}, AgsAt K σ F1 e1 as vs → ∀ (k i : Nat), (agSlots as)[k]? = some i → ∃ c : Ce, e1[i]? = some (some c) ∧ c.ow = true := by
          intro as vs ha
          induction ha with
          | nil => intro k i h; simp [agSlots] at h
          | @cons a as v vs h0 _ ih =>
            cases a with
            | d d => exact ih
            | s i0 =>
              intro k i h
              unfold agSlots at h
              cases k with
              | zero =>
                simp at h
                subst h
                exact h0.2
              | succ k => exact ih k i (by simpa using h)
        exact fun k b i h => go ha k i h
      obtain ⟨c1, w1, w2⟩ := own k b i1 s1
      obtain ⟨c2, w3, w4⟩ := own j b i2 s3
      exact n.r.sep i1 i2 c1 c2 b hi w1 w3 w2 w4 s2 s4
  refine ⟨F1, cs, _, os, io, n.r.fh, g1, hn2, h3, fun v F2 H2 go nat out => ?_⟩
  have lv : ∀ b, b ∈ io.map (·.2) → Lv σ e1 b := fun b hb => by
    obtain ⟨k, hk⟩ := List.getElem?_of_mem hb
    obtain ⟨_, _, _, l⟩ := gk k b hk
    exact l
  obtain ⟨sh, pb⟩ := putBack_at hnd h4 out
  have n2 : Nx K G σ F1 H1 e1 F2 H2 e' := n.r.next (go.mono lv) sh fun i c2 hi => by
    rcases pb i c2 hi with ⟨z1, z2⟩ | ⟨k, b, o, xs, z1, z2, z3, z4, z5, z6⟩
    · obtain ⟨w, w1, w2⟩ := n.r.at_ i c2 z2
      refine ⟨w, w1, ?_⟩
      rcases w2 with ⟨d, rfl, hd⟩ | ⟨b, o, xs, rfl, y1, y2, y3, y4, y5, y6⟩
      · exact .inl ⟨d, rfl, hd.mono go.ff⟩
      · have hb : b ∉ io.map (·.2) := fun hb => by
          obtain ⟨k, hk⟩ := List.getElem?_of_mem hb
          obtain ⟨j, s1, s2, ⟨j', c', l1, l2, l3⟩⟩ := gk k b hk
          have hji : j' = i := Classical.byContradiction fun hne => n.r.sep j' i c' c2 b hne l1 z2 l2 y3.ow l3 w1
          have hj2 : j = i := by
            obtain ⟨w3, v3, _⟩ := n.r.at_ i c2 z2
            by_cases hne : j = i
            · exact hne
            · exfalso
              -- j is one of the slots handed over, so it is of its own
              have own : ∀ {as : List Ag} {vs : List V}, AgsAt K σ F1 e1 as vs → ∀ (k i : Nat), (agSlots as)[k]? = some i → ∃ c : Ce, e1[i]? = some (some c) ∧ c.ow = true := by
                intro as vs ha
                induction ha with
                | nil => intro k i h; simp [agSlots] at h
                | @cons a as v vs h0 _ ih =>
                  cases a with
                  | d d => exact ih
                  | s i0 =>
                    intro k i h
                    unfold agSlots at h
                    cases k with
                    | zero =>
                      simp at h
                      subst h
                      exact h0.2
                    | succ k => exact ih k i (by simpa using h)
              obtain ⟨c3, w5, w6⟩ := own ha k j s1
              exact n.r.sep j i c3 c2 b hne w5 z2 w6 y3.ow s2 w1
          rw [← hj2] at z1
          exact z1 (List.mem_of_getElem? s1)
        exact .inr ⟨b, o, xs, rfl, (go.st b y1 (by rw [y2]; rfl)).1, go.hh b o y2 hb, y3, y4.mono go.ff, y5, y6⟩
    · obtain ⟨j, s1, s2, _⟩ := gk k b z2
      have hji : j = i := by rw [z1] at s1; exact (Option.some.inj s1).symm
      subst hji
      obtain ⟨c0, g0, w0⟩ := sh_at sh.symm hi
      obtain ⟨w, w1, w2⟩ := n.r.at_ j c0 g0
      rw [s2] at w1
      cases w1
      have ow0 : c0.ow = true := by rw [(kd_ow w0).1]; exact z5.ow
      obtain ⟨b', o', xs', q', _, _, _, _, y5, y6⟩ := w2.own ow0
      cases q'
      exact ⟨_, s2, .inr ⟨b, o, xs, rfl, z3, z4, z5, z6, fun z => y5 (by rw [(kd_ow w0).2]; exact z), fun z => y6 (by rw [(kd_ow w0).2]; exact z)⟩⟩
  exact q v F2 H2 (n.trans n2) (nat.back n.go r.fh)
theorem pn_call {k : Nat} {f : Addr} {fd : FuncData} {ps : List Str} {S : Sf} {ma : M (List Ag)} (F : FnD X.prog X.w X.K X.mg X.base k f fd ps S) (hr : Room k X.A) (hg : Gl X x) (hm : X.mg x = some (.ref f)) (hk : PySem.W.keepIn X.K (.ref f) = true) (hb : Binds X.K fd ps [])
    (ha : PAg X (ex :: es) ma) (hdb : (x == ("__debug__" : Str)) = false := by decide) (he : starEach (ex :: es) X.env = (false, eval ex X.env) :: starEach es X.env := by rfl) (hpl : (backTo pos (starEach es X.env)).any (·.1) = false := by rfl) :
    PN X (.Call (.Name x p) (ex :: es) [] pos) (mCall S ma) := PEimp (pe_call F hr hg hm hk hb .nil pass0 ha hdb he hpl) fun σ H Q h => call_ok h
end
end DL

namespace DL
open PySem L2 PyProof.Rows

/-! ### list comprehensions -/
def wipeE (e : En) : List Nat → En
  | [] => e
  | v :: vs => (wipeE e vs).set v none
def restE (e e3 : En) : List Nat → En
  | [] => e3
  | v :: vs => (restE e e3 vs).set v ((e[v]?).getD none)
theorem wipe_get (σ : L2.St) (j : Nat) : ∀ vs : List Nat, (wipe σ vs)[j]? = if j ∈ vs then (σ[j]?).map (fun _ => none) else σ[j]?
  | [] => by simp [wipe]
  | v :: vs => by
    unfold wipe
    by_cases h : v = j
    · subst h
      rw [if_pos List.mem_cons_self]
      by_cases hl : v < (wipe σ vs).length
      · rw [List.getElem?_set_self hl]
        rw [wipe_length] at hl
        rw [List.getElem?_eq_getElem hl]
        rfl
      · rw [List.getElem?_eq_none (by simpa using Nat.le_of_not_lt hl)]
        rw [wipe_length] at hl
        rw [List.getElem?_eq_none (Nat.le_of_not_lt hl)]
        rfl
    · rw [List.getElem?_set_ne h, wipe_get σ j vs]
      simp [Ne.symm h]
theorem wipeE_len (e : En) : ∀ vs : List Nat, (wipeE e vs).length = e.length
  | [] => rfl
  | v :: vs => by unfold wipeE; rw [List.length_set, wipeE_len e vs]
theorem wipeE_get (e : En) (j : Nat) : ∀ vs : List Nat, (wipeE e vs)[j]? = if j ∈ vs then (e[j]?).map (fun _ => none) else e[j]?
  | [] => by simp [wipeE]
  | v :: vs => by
    unfold wipeE
    by_cases h : v = j
    · subst h
      rw [if_pos List.mem_cons_self]
      by_cases hl : v < (wipeE e vs).length
      · rw [List.getElem?_set_self hl]
        rw [wipeE_len] at hl
        rw [List.getElem?_eq_getElem hl]
        rfl
      · rw [List.getElem?_eq_none (by simpa using Nat.le_of_not_lt hl)]
        rw [wipeE_len] at hl
        rw [List.getElem?_eq_none (Nat.le_of_not_lt hl)]
        rfl
    · rw [List.getElem?_set_ne h, wipeE_get e j vs]
      simp [Ne.symm h]
theorem restE_len (e e3 : En) : ∀ vs : List Nat, (restE e e3 vs).length = e3.length
  | [] => rfl
  | v :: vs => by unfold restE; rw [List.length_set, restE_len e e3 vs]
theorem restE_get (e e3 : En) (hl : e3.length = e.length) (j : Nat) : ∀ vs : List Nat, (restE e e3 vs)[j]? = if j ∈ vs then e[j]? else e3[j]?
  | [] => by simp [restE]
  | v :: vs => by
    unfold restE
    by_cases h : v = j
    · subst h
      rw [if_pos List.mem_cons_self]
      by_cases hv : v < e.length
      · rw [List.getElem?_set_self (by rw [restE_len, hl]; exact hv), List.getElem?_eq_getElem hv]
        rfl
      · rw [List.getElem?_eq_none (by rw [List.length_set, restE_len, hl]; exact Nat.le_of_not_lt hv), List.getElem?_eq_none (Nat.le_of_not_lt hv)]
    · rw [List.getElem?_set_ne h, restE_get e e3 hl j vs]
      simp [Ne.symm h]
def cLoop (t : Tg) (vs : List Nat) (c : M Bool) (m : M D) : List D → List D → En → Rs (List D × En)
  | [], acc, e => if vs.all (frozenAt e) = true then .ok (acc, e) else .no
  | d :: ds, acc, e => if vs.all (frozenAt e) = true then
      (t d (wipeE e vs)).bind fun e1 => (c e1).bind fun p => if p.1 = true then
        (m p.2).bind fun q => if acc.length < 16000000 then cLoop t vs c m ds (acc ++ [q.1]) q.2 else .no
      else cLoop t vs c m ds acc p.2
    else .no
def mComp (src : M (List D)) (t : Tg) (vs : List Nat) (c : M Bool) (m : M D) : M Ce := fun e => (src e).bind fun p => (cLoop t vs c m p.1 [] p.2).bind fun q => .ok (.l false q.1, restE p.2 q.2 vs)
def mYes : M Bool := fun e => .ok (true, e)
section
variable {K : PySem.W.Frag} {G : Bs} {F H F1 H1 : Hp} {σ : L2.St} {e e1 e3 : En} {vs is : List Nat}
theorem fr_at (h : vs.all (frozenAt e) = true) {i : Nat} (hi : i ∈ vs) {c : Ce} (hc : e[i]? = some (some c)) : c.ow = false := by
  have h1 := List.all_eq_true.mp h i hi
  unfold frozenAt at h1
  rw [hc] at h1
  simpa using h1
theorem io_ow {c : Ce} (h : c.ow = false) : c.io = false := by cases c <;> first | rfl | cases h
/-- the block's own names are forgotten -/
theorem R.wipe (r : R K G F H σ e) (h : vs.all (frozenAt e) = true) : R K G F H (wipe σ vs) (wipeE e vs) := by
  have at2 : ∀ (j : Nat) (c : Ce), (wipeE e vs)[j]? = some (some c) → j ∉ vs ∧ e[j]? = some (some c) := fun j c hj => by
    rw [wipeE_get] at hj
    by_cases hv : j ∈ vs
    · rw [if_pos hv] at hj
      cases q : e[j]? with
      | none => rw [q] at hj; cases hj
      | some o => rw [q] at hj; cases hj
    · rw [if_neg hv] at hj
      exact ⟨hv, hj⟩
  have sg : ∀ j, j ∉ vs → (L2.wipe σ vs)[j]? = σ[j]? := fun j hj => by rw [wipe_get, if_neg hj]
  refine ⟨r.go, r.ba, fun j c hj => ?_, fun j k c1 c2 a hjk h1 h2 o1 o2 s1 s2 => ?_, fun p hp => ?_, by rw [wipeE_len, wipe_length]; exact r.len⟩
  · obtain ⟨hv, hj⟩ := at2 j c hj
    rw [sg j hv]
    exact r.at_ j c hj
  · obtain ⟨v1, g1⟩ := at2 j c1 h1
    obtain ⟨v2, g2⟩ := at2 k c2 h2
    rw [sg j v1] at s1
    rw [sg k v2] at s2
    exact r.sep j k c1 c2 a hjk g1 g2 o1 o2 s1 s2
  · obtain ⟨h1, c, h2, h3⟩ := r.io p hp
    have hv : p.1 ∉ vs := fun hv => by
      have := io_ow (fr_at h hv h2)
      rw [h3] at this
      cases this
    exact ⟨by rw [sg _ hv]; exact h1, c, by rw [wipeE_get, if_neg hv]; exact h2, h3⟩
/-- and told again -/
theorem R.unwipe (r : R K G F H (L2.wipe σ vs) (wipeE e3 vs)) (r1 : R K G F1 H1 σ e1) (x : Ex F1 F) (h : vs.all (frozenAt e1) = true) (hl : e3.length = e1.length) : R K G F H σ (restE e1 e3 vs) := by
  have at2 : ∀ (j : Nat) (c : Ce), (restE e1 e3 vs)[j]? = some (some c) → (j ∈ vs ∧ e1[j]? = some (some c)) ∨ (j ∉ vs ∧ (wipeE e3 vs)[j]? = some (some c) ∧ (L2.wipe σ vs)[j]? = σ[j]?) := fun j c hj => by
    rw [restE_get e1 e3 hl] at hj
    by_cases hv : j ∈ vs
    · rw [if_pos hv] at hj
      exact .inl ⟨hv, hj⟩
    · rw [if_neg hv] at hj
      exact .inr ⟨hv, by rw [wipeE_get, if_neg hv]; exact hj, by rw [wipe_get, if_neg hv]⟩
  refine ⟨r.go, r.ba, fun j c hj => ?_, fun j k c1 c2 a hjk h1 h2 o1 o2 s1 s2 => ?_, fun p hp => ?_, by rw [restE_len, hl]; exact r1.len⟩
  · rcases at2 j c hj with ⟨hv, g⟩ | ⟨hv, g, sg⟩
    · obtain ⟨v, q1, q2⟩ := r1.at_ j c g
      refine ⟨v, q1, ?_⟩
      have ow := fr_at h hv g
      rcases q2 with ⟨d, rfl, hd⟩ | ⟨a, o, xs, rfl, _, _, q, _⟩
      · exact .inl ⟨d, rfl, hd.mono x⟩
      · rw [q.ow] at ow; cases ow
    · obtain ⟨v, q1, q2⟩ := r.at_ j c g
      rw [sg] at q1
      exact ⟨v, q1, q2⟩
  · rcases at2 j c1 h1 with ⟨hv, g⟩ | ⟨hv, g, sg⟩
    · rw [fr_at h hv g] at o1; cases o1
    · rcases at2 k c2 h2 with ⟨hv', g'⟩ | ⟨hv', g', sg'⟩
      · rw [fr_at h hv' g'] at o2; cases o2
      · rw [← sg] at s1
        rw [← sg'] at s2
        exact r.sep j k c1 c2 a hjk g g' o1 o2 s1 s2
  · obtain ⟨h1, c, h2, h3⟩ := r.io p hp
    have hv : p.1 ∉ vs := fun hv => by
      rw [wipeE_get, if_pos hv] at h2
      cases q : e3[p.1]? with
      | none => rw [q] at h2; cases h2
      | some o => rw [q] at h2; cases h2
    rw [wipe_get, if_neg hv] at h1
    rw [wipeE_get, if_neg hv] at h2
    exact ⟨h1, c, by rw [restE_get e1 e3 hl, if_neg hv]; exact h2, h3⟩
theorem wipe_chg {σ2 : L2.St} (h : Chg is (L2.wipe σ vs) σ2) (hs : ∀ i ∈ is, i ∈ vs) : L2.wipe σ2 vs = L2.wipe σ vs := by
  apply List.ext_getElem?
  intro j
  rw [wipe_get, wipe_get]
  have hlen : σ2.length = σ.length := by rw [h.1, wipe_length]
  by_cases hv : j ∈ vs
  · rw [if_pos hv, if_pos hv]
    by_cases hj : j < σ.length
    · rw [List.getElem?_eq_getElem hj, List.getElem?_eq_getElem (by omega)]
      rfl
    · rw [List.getElem?_eq_none (Nat.le_of_not_lt hj), List.getElem?_eq_none (by omega)]
  · rw [if_neg hv, if_neg hv, h.2 j (fun z => hv (hs j z)), wipe_get, if_neg hv]
/-- an object that is no slot's is written -/
theorem R.other {a : Addr} {o : HO} (r : R K G F H σ e) (h1 : F a = none) (h2 : (H a).isSome = true) (h3 : ¬ Lv σ e a) (h4 : G.H a = none) : R K G F (upd H a o) σ e := by
  refine ⟨⟨r.go.ff, fun b u hb hn => ?_, fun b u hb => ?_, fun b q1 q2 => ?_⟩, r.ba, fun i c hc => ?_, r.sep, r.io, r.len⟩
  · have hba : b ≠ a := fun z => by subst z; rw [h4] at hb; cases hb
    rw [upd_ne hba]
    exact r.go.hh b u hb hn
  · rw [upd_ne (ne_of_none hb h1)]
    exact r.fh b u hb
  · obtain ⟨z1, z2⟩ := r.go.st b q1 q2
    refine ⟨z1, ?_⟩
    by_cases hba : b = a
    · subst hba; rw [upd_same]; rfl
    · rw [upd_ne hba]; exact z2
  · obtain ⟨v, g1, g2⟩ := r.at_ i c hc
    refine ⟨v, g1, ?_⟩
    rcases g2 with g2 | ⟨b, u, xs, rfl, z1, z2, z3, z4, z5⟩
    · exact .inl g2
    · have hba : b ≠ a := fun z => by
        subst z
        exact h3 ⟨i, c, hc, z3.ow, g1⟩
      exact .inr ⟨b, u, xs, rfl, z1, by rw [upd_ne hba]; exact z2, z3, z4, z5⟩
theorem kd_frozen {c c' : Ce} (h : c'.kd = c.kd) : c'.ow = c.ow := (kd_ow h).1
theorem all_frozen_sh (sh : e1.map (Option.map Ce.kd) = e.map (Option.map Ce.kd)) (h : vs.all (frozenAt e) = true) : vs.all (frozenAt e1) = true := by
  rw [List.all_eq_true] at h ⊢
  intro i hi
  have := h i hi
  unfold frozenAt at this ⊢
  cases q : e1[i]? with
  | none => rfl
  | some oc =>
    cases oc with
    | none => rfl
    | some c =>
      obtain ⟨c', g1, g2⟩ := sh_at sh.symm q
      rw [g1] at this
      simpa [kd_frozen g2] using this
theorem wipe_sh (sh : e1.map (Option.map Ce.kd) = e.map (Option.map Ce.kd)) : (wipeE e1 vs).map (Option.map Ce.kd) = (wipeE e vs).map (Option.map Ce.kd) := by
  apply List.ext_getElem?
  intro j
  have h1 : (e1.map (Option.map Ce.kd))[j]? = (e.map (Option.map Ce.kd))[j]? := by rw [sh]
  rw [List.getElem?_map, List.getElem?_map] at h1 ⊢
  rw [wipeE_get, wipeE_get]
  by_cases hv : j ∈ vs
  · rw [if_pos hv, if_pos hv]
    cases q1 : e1[j]? with
    | none => rw [q1] at h1; cases q2 : e[j]? with
      | none => rfl
      | some _ => rw [q2] at h1; cases h1
    | some _ => rw [q1] at h1; cases q2 : e[j]? with
      | none => rw [q2] at h1; cases h1
      | some _ => rfl
  · rw [if_neg hv, if_neg hv]; exact h1
theorem lc_ok {src : M (List D)} {t : Tg} {c : M Bool} {m : M D} {Q : VK} (to : TgOk t is) (hs : ∀ i ∈ is, i ∈ vs) (h : tN K (mComp src t vs c m) σ H Q) : tLc (tI K src) (tG K t is) (tT K c) (tF K m) vs σ H Q := by
  obtain ⟨G, F, e, cell, e', r, hm, q⟩ := h
  obtain ⟨ds, e1, h1, hm⟩ := bind_ok2 hm
  obtain ⟨⟨xs, e3⟩, h2, hm⟩ := Rs.bind_eq hm
  cases hm
  refine ⟨G, F, e, ds, e1, r, h1, fun J F1 H1 n wk D hD => ?_⟩
  have fr0 : vs.all (frozenAt e1) = true := by
    cases ds with
    | nil => unfold cLoop at h2; exact (ite_ok h2).1
    | cons d ds => unfold cLoop at h2; exact (ite_ok h2).1
  have F1D : F1 D = none := ex_none n.r.fh hD
  obtain ⟨DnL, DGH, DGF, _⟩ := n.r.new hD
  have go0 : Go F1 H1 F1 (upd H1 D (.lst [])) noA := Go.newO n.r.fh hD
  refine ⟨fun i m' H' => m' = ds.length - i ∧ i ≤ ds.length ∧ ∃ (F2 : Hp) (e2 : En) (acc : List DL.D) (va : List V), R K G F2 H' (L2.wipe σ vs) (wipeE e2 vs) ∧ e2.length = e1.length ∧ (wipeE e2 vs).map (Option.map Ce.kd) = (wipeE e1 vs).map (Option.map Ce.kd) ∧
      Go F1 H1 F2 H' (Lv σ e1) ∧ F2 D = none ∧ H' D = some (.lst va) ∧ DnA K F2 va acc ∧ cLoop t vs c m (ds.drop i) acc e2 = .ok (xs, e3),
    ⟨ds.length, by omega, Nat.zero_le _, F1, e1, [], [], ((n.r.wipe fr0).step go0).r, rfl, rfl, go0.any, F1D, upd_same, .nil, by rw [List.drop_zero]; exact h2⟩, ?_⟩
  rintro i m' H' ⟨rfl, hi, F2, e2, acc, va, r2, len2, sh2, go2, FD, HD, da, hc⟩
  obtain ⟨w1, w2⟩ := wk i F2 H' go2.ff r2.fh
  -- the list is no slot's
  have notLv : ∀ (e4 : En) (σ4 : L2.St), (∀ b, Lv σ4 e4 b → Lv σ e1 b) → ¬ Lv σ4 e4 D := fun e4 σ4 hh z => DnL (hh D z)
  have lvw : ∀ b, Lv (L2.wipe σ vs) (wipeE e2 vs) b → Lv σ e1 b := fun b ⟨j, cc, g1, g2, g3⟩ => by
    obtain ⟨c', g4, g5⟩ := sh_at sh2.symm g1
    rw [wipeE_get] at g4
    by_cases hv : j ∈ vs
    · rw [if_pos hv] at g4
      cases q : e1[j]? with
      | none => rw [q] at g4; cases g4
      | some o => rw [q] at g4; cases g4
    · rw [if_neg hv] at g4
      rw [wipe_get, if_neg hv] at g3
      exact ⟨j, c', g4, by rw [(kd_ow g5).1]; exact g2, g3⟩
  by_cases hlt : i < ds.length
  · have hd : ds[i]? = some ds[i] := List.getElem?_eq_getElem hlt
    obtain ⟨g1, g2⟩ := w1 _ hd
    rw [List.drop_eq_getElem_cons hlt] at hc
    unfold cLoop at hc
    obtain ⟨fr, hc⟩ := ite_ok hc
    obtain ⟨ea, ht, hc⟩ := Rs.bind_eq hc
    obtain ⟨⟨b, eb⟩, hcond, hc⟩ := Rs.bind_eq hc
    refine .inr ⟨g1, fun H'' => ∃ (F2 : Hp) (e2 : En) (acc : List DL.D) (va : List V), R K G F2 H'' (L2.wipe σ vs) (wipeE e2 vs) ∧ e2.length = e1.length ∧ (wipeE e2 vs).map (Option.map Ce.kd) = (wipeE e1 vs).map (Option.map Ce.kd) ∧
      Go F1 H1 F2 H'' (Lv σ e1) ∧ F2 D = none ∧ H'' D = some (.lst va) ∧ DnA K F2 va acc ∧ cLoop t vs c m (ds.drop (i + 1)) acc e2 = .ok (xs, e3), fun H'' q => ⟨ds.length - (i + 1), by omega, rfl, hlt, q⟩, fun x H3 y => ?_⟩
    obtain ⟨F3, go3, hx⟩ := g2 x H3 y
    have n3 := r2.step go3
    have len_a : ea.length = e1.length := by rw [to.ln _ _ _ ht, wipeE_len, len2]
    have fr_a : vs.all (frozenAt ea) = true := by
      rw [List.all_eq_true]
      intro j hj
      refine to.fz _ _ _ ht j (.inr ?_)
      unfold frozenAt
      rw [wipeE_get, if_pos hj]
      cases e2[j]? <;> rfl
    -- behind the target: what is of one's own is as it was
    have sh_a : (wipeE ea vs).map (Option.map Ce.kd) = (wipeE e1 vs).map (Option.map Ce.kd) := by
      rw [← sh2]
      apply List.ext_getElem?
      intro j
      rw [List.getElem?_map, List.getElem?_map, wipeE_get, wipeE_get]
      by_cases hv : j ∈ vs
      · rw [if_pos hv, if_pos hv]
        have : (ea[j]?).isSome = (e2[j]?).isSome := by
          by_cases hj : j < e1.length
          · rw [List.getElem?_eq_getElem (by omega), List.getElem?_eq_getElem (by omega)]
            try rfl
          · rw [List.getElem?_eq_none (by omega), List.getElem?_eq_none (by omega)]
            try rfl
        cases q1 : ea[j]? <;> cases q2 : e2[j]? <;> simp_all
      · rw [if_neg hv, if_neg hv, to.ne _ _ _ ht j (fun z => hv (hs j z)), wipeE_get, if_neg hv]
    refine ⟨G, F3, _, _, ea, n3.r, hx, ht, fun σ2 r4 chg => ⟨wipe_chg chg hs, G, F3, ea, b, eb, r4, hcond, fun F5 H5 n5 => ?_⟩⟩
    have wσ : L2.wipe σ2 vs = L2.wipe σ vs := wipe_chg chg hs
    have lva : ∀ b, Lv σ2 ea b → Lv σ e1 b := fun b ⟨j, cc, z1, z2, z3⟩ => by
      have hv : j ∉ vs := fun hv => by
        rw [fr_at fr_a hv z1] at z2; cases z2
      refine lvw b ⟨j, cc, ?_, z2, ?_⟩
      · rw [← to.ne _ _ _ ht j (fun z => hv (hs j z))]; exact z1
      · rw [← chg.2 j (fun z => hv (hs j z))]; exact z3
    have F3D : F3 D = none := (go3.st D FD (by rw [HD]; rfl)).1
    have H3D : H3 D = some (.lst va) := go3.hh D _ HD (fun z => z)
    have da3 := da.mono go3.ff
    have go13 : Go F1 H1 F3 H3 (Lv σ e1) := go2.trans go3.any
    have F5D : F5 D = none := (n5.go.st D F3D (by rw [H3D]; rfl)).1
    have H5D : H5 D = some (.lst va) := n5.go.hh D _ H3D (notLv ea σ2 lva)
    have go15 : Go F1 H1 F5 H5 (Lv σ e1) := go13.trans (n5.go.mono lva)
    have fr_b : vs.all (frozenAt eb) = true := all_frozen_sh n5.sh fr_a
    have len_b : eb.length = e1.length := by
      have := congrArg List.length n5.sh
      simp only [List.length_map] at this
      rw [this, len_a]
    cases b with
    | false =>
      refine iteF ?_
      dsimp only at hc
      rw [if_neg Bool.false_ne_true] at hc
      have rw5 := n5.r.wipe fr_b
      rw [wσ] at rw5
      exact ⟨F5, eb, acc, va, rw5, len_b, (wipe_sh n5.sh).trans sh_a, go15, F5D, H5D, da3.mono n5.go.ff, hc⟩
    | true =>
      refine iteT ?_
      dsimp only at hc
      rw [if_pos rfl] at hc
      obtain ⟨⟨z, ec⟩, hm, hc⟩ := Rs.bind_eq hc
      obtain ⟨hz, hc⟩ := ite_ok hc
      refine ⟨G, F5, eb, z, ec, n5.r, hm, fun v F6 H6 n6 hv => ?_⟩
      have lvb : ∀ b, Lv σ2 eb b → Lv σ e1 b := fun b hb => lva b (sh_lv n5.sh hb)
      have F6D : F6 D = none := (n6.go.st D F5D (by rw [H5D]; rfl)).1
      have H6D : H6 D = some (.lst va) := n6.go.hh D _ H5D (notLv eb σ2 lvb)
      have go16 : Go F1 H1 F6 H6 (Lv σ e1) := go15.trans (n6.go.mono lvb)
      have fr_c : vs.all (frozenAt ec) = true := all_frozen_sh n6.sh fr_b
      have len_c : ec.length = e1.length := by
        have := congrArg List.length n6.sh
        simp only [List.length_map] at this
        rw [this, len_b]
      have da6 := (da3.mono n5.go.ff).mono n6.go.ff
      refine ⟨va, H6D, by rw [da6.len]; exact small_line hz, F6, ec, acc ++ [z], va ++ [v], ?_, len_c, ((wipe_sh n6.sh).trans (wipe_sh n5.sh)).trans sh_a, ?_, F6D, upd_same, da6.app (.cons hv .nil), hc⟩
      · have rw6 := n6.r.wipe fr_c
        rw [wσ] at rw6
        refine rw6.other F6D (by rw [H6D]; rfl) (fun z => ?_) DGH
        obtain ⟨j, cc, z1, z2, z3⟩ := z
        have hv : j ∉ vs := fun hv => by
          rw [wipeE_get, if_pos hv] at z1
          cases q : ec[j]? with
          | none => rw [q] at z1; cases z1
          | some o => rw [q] at z1; cases z1
        rw [wipeE_get, if_neg hv] at z1
        refine notLv ec σ2 (fun b hb => lvb b (sh_lv n6.sh hb)) ⟨j, cc, z1, z2, ?_⟩
        rw [wipe_get, if_neg hv] at z3
        rw [chg.2 j (fun z => hv (hs j z)), wipe_get, if_neg hv]
        exact z3
      · refine ⟨go16.ff, fun b u hb hn => ?_, fun b u hb => ?_, fun b q1 q2 => ?_⟩
        · have hbD : b ≠ D := fun z => by subst z; rw [hD] at hb; cases hb
          rw [upd_ne hbD]
          exact go16.hh b u hb hn
        · rw [upd_ne (ne_of_none hb F6D)]
          exact go16.fh b u hb
        · have hbD : b ≠ D := fun z => by subst z; rw [hD] at q2; cases q2
          rw [upd_ne hbD]
          exact go16.st b q1 q2
  · have e4 : i = ds.length := by omega
    subst e4
    rw [List.drop_length] at hc
    unfold cLoop at hc
    obtain ⟨fr, hc⟩ := ite_ok hc
    have hc1 := congrArg Prod.fst (Rs.ok.inj hc)
    have hc2 := congrArg Prod.snd (Rs.ok.inj hc)
    dsimp only at hc1 hc2
    subst hc1 hc2
    refine .inl ⟨w2 (List.getElem?_eq_none (Nat.le_refl _)), ?_⟩
    have rr := R.unwipe r2 n.r go2.ff fr0 len2
    refine q (.ref D) F2 H' (n.trans ⟨rr, go2, ?_⟩) (.inr ⟨rfl, D, _, va, rfl, n.go.old r.fh hD, FD, HD, rfl, da⟩)
    apply List.ext_getElem?
    intro j
    have h1 : ((wipeE e2 vs).map (Option.map Ce.kd))[j]? = ((wipeE e1 vs).map (Option.map Ce.kd))[j]? := by rw [sh2]
    rw [List.getElem?_map, List.getElem?_map] at h1 ⊢
    rw [wipeE_get, wipeE_get] at h1
    rw [restE_get e1 e2 len2]
    by_cases hv : j ∈ vs
    · rw [if_pos hv]
    · rw [if_neg hv, if_neg hv] at h1
      rw [if_neg hv]
      exact h1
end
section
variable {X : Cx} {ex elt tg iter : Expr} {ifs : List Expr} {scope : Scope} {own : List (Str × Nat)} {pos spos py : Pos} {src : M (List D)} {t : Tg} {is : List Nat} {c : M Bool} {m : M D} {i : Nat} {y : Str}
abbrev PTsd (X : Cx) (ifs : List Expr) (m : M Bool) : Prop := PTs X ifs (tT X.K m)
theorem PTsimp {t t' : TT} (h : PTs X ifs t) (hi : ∀ σ H Q, t' σ H Q → t σ H Q) : PTs X ifs t' := ⟨fun pins s σ H Q I q => h.run pins s σ H Q I (hi σ H Q q)⟩
theorem ptsd_nil : PTsd X [] mYes := PTsimp pts_nil fun σ H Q ⟨G, F, e, b, e', r, hm, q⟩ => by
  cases hm
  exact q F H (Nx.refl r)
theorem ptsd_one {a : M Bool} (h : PTd X ex a) : PTsd X [ex] a := pts_one h
theorem pn_lc (hc : X.calm = true) (hN : X.N.Nodup) (hi : PId X tg iter src) (ok : BlkOk X.N X.env.scope scope own) (to : TgOk t is) (hsub : ∀ i ∈ is, i ∈ own.map (·.2))
    (hg : ∀ (s : Shared) (H : Hp) (C : Addr) (cl : List (Str × Addr)) (fp : List Addr), PGd (X.blk s H scope (compEnvC scope cl C X.env) fp) tg t is) (ht : ∀ (s : Shared) (H : Hp) (C : Addr) (cl : List (Str × Addr)) (fp : List Addr), PTsd (X.blk s H scope (compEnvC scope cl C X.env) fp) ifs c)
    (he : ∀ (s : Shared) (H : Hp) (C : Addr) (cl : List (Str × Addr)) (fp : List Addr), PF (X.blk s H scope (compEnvC scope cl C X.env) fp) elt m) (hs : ∀ x, foldedSetIterable iter X.env x = pure x := by intro _; rfl) :
    PN X (.ListComp elt [⟨tg, iter, ifs, 0⟩] scope pos) (mComp src t (own.map (·.2)) c m) :=
  PEimp (pe_lc hc hN hi ok hg ht he hs) fun σ H Q h => lc_ok to hsub h
/-- y = [..], all on one line -/
theorem pds_setLc (hc : X.calm = true) (hN : X.N.Nodup) (hy : X.N[i]? = some y) (hyl : X.env.scope.names.lookup y = some .local) (hsw : swapsWith (.ListComp elt [⟨tg, iter, ifs, 0⟩] scope pos) (some (.Name y py)) spos.line X.env = pure true)
    (hi : PId X tg iter src) (ok : BlkOk X.N X.env.scope scope own) (to : TgOk t is) (hsub : ∀ i ∈ is, i ∈ own.map (·.2))
    (hg : ∀ (s : Shared) (H : Hp) (C : Addr) (cl : List (Str × Addr)) (fp : List Addr), PGd (X.blk s H scope (compEnvC scope cl C X.env) fp) tg t is) (ht : ∀ (s : Shared) (H : Hp) (C : Addr) (cl : List (Str × Addr)) (fp : List Addr), PTsd (X.blk s H scope (compEnvC scope cl C X.env) fp) ifs c)
    (he : ∀ (s : Shared) (H : Hp) (C : Addr) (cl : List (Str × Addr)) (fp : List Addr), PF (X.blk s H scope (compEnvC scope cl C X.env) fp) elt m) (hs : ∀ x, foldedSetIterable iter X.env x = pure x := by intro _; rfl) :
    PDS X (.Assign [.Name y py] (.ListComp elt [⟨tg, iter, ifs, 0⟩] scope pos) spos) (sAsg i (mComp src t (own.map (·.2)) c m)) :=
  PSimp (ps_setLc hc hN hy hyl hsw hi ok hg ht he hs) fun E σ H h => by
    have h2 := asg_ok h
    exact lc_ok (c := c) (m := m) to hsub h2
theorem pds_setLcF (hc : X.calm = true) (hN : X.N.Nodup) (hy : X.N[i]? = some y) (hyl : X.env.scope.names.lookup y = some .local) (hsw : swapsWith (.ListComp elt [⟨tg, iter, ifs, 0⟩] scope pos) (some (.Name y py)) spos.line X.env = pure true)
    (hi : PId X tg iter src) (ok : BlkOk X.N X.env.scope scope own) (to : TgOk t is) (hsub : ∀ i ∈ is, i ∈ own.map (·.2))
    (hg : ∀ (s : Shared) (H : Hp) (C : Addr) (cl : List (Str × Addr)) (fp : List Addr), PGd (X.blk s H scope (compEnvC scope cl C X.env) fp) tg t is) (ht : ∀ (s : Shared) (H : Hp) (C : Addr) (cl : List (Str × Addr)) (fp : List Addr), PTsd (X.blk s H scope (compEnvC scope cl C X.env) fp) ifs c)
    (he : ∀ (s : Shared) (H : Hp) (C : Addr) (cl : List (Str × Addr)) (fp : List Addr), PF (X.blk s H scope (compEnvC scope cl C X.env) fp) elt m) (hs : ∀ x, foldedSetIterable iter X.env x = pure x := by intro _; rfl) :
    PDS X (.Assign [.Name y py] (.ListComp elt [⟨tg, iter, ifs, 0⟩] scope pos) spos) (sAsgF i (mZ (mComp src t (own.map (·.2)) c m))) :=
  PSimp (ps_setLc hc hN hy hyl hsw hi ok hg ht he hs) fun E σ H h => by
    have h2 := asgF_ok h
    refine lc_ok (c := c) (m := m) to hsub ?_
    obtain ⟨G, F, e, d, e', r, hm, q⟩ := h2
    obtain ⟨c, e1, h1, h2⟩ := bind_ok2 hm
    cases h2
    refine ⟨G, F, e, c, _, r, h1, fun v F' H' n hn => ?_⟩
    obtain ⟨F2, n2, _, hd⟩ := hn.frz r n
    exact q v F2 H' n2 hd
end
end DL

namespace DL
open PySem L2 PyProof.Rows

/-! ### dicts as data -/
def dFind : List D → List D → D → Option D
  | k' :: ks, v :: vs, k => if D.eqb k' k = true then some v else dFind ks vs k
  | _, _, _ => none
def dHas (ks : List D) (k : D) : Bool := ks.any fun k' => D.eqb k' k
def dPutV : List D → List D → D → D → List D
  | k' :: ks, v' :: vs, k, v => (if D.eqb k' k = true then v else v') :: dPutV ks vs k v
  | _, vs, _, _ => vs
def dPutK (ks : List D) (k : D) : List D := if dHas ks k = true then ks else ks ++ [k]
def dPutW (ks vs : List D) (k v : D) : List D := if dHas ks k = true then dPutV ks vs k v else vs ++ [v]
/-- a key: an int, a text; or a tuple of such -/
def D.key : D → Option Key
  | .int i => some (.inl i)
  | .str s => some (.inr s)
  | _ => Option.none
def keysA : List D → Option (List Key)
  | [] => some []
  | d :: ds => match d.key, keysA ds with
    | some k, some ks => some (k :: ks)
    | _, _ => none
def D.keyT : D → Option (List Key)
  | .tuple ds => keysA ds
  | _ => Option.none
theorem key_kD {d : D} {k : Key} (h : d.key = some k) : d = kD k := by
  cases d <;> first
    | (cases h; done)
    | (cases h; rfl)
theorem keysA_kD : ∀ {ds : List D} {ks : List Key}, keysA ds = some ks → ds = ks.map kD
  | [], ks, h => by cases h; rfl
  | d :: ds, ks, h => by
    unfold keysA at h
    split at h
    · rename_i k ks' h1 h2
      cases h
      rw [key_kD h1, keysA_kD h2]
      rfl
    · cases h
theorem keyT_kD {d : D} {ks : List Key} (h : d.keyT = some ks) : d = .tuple (ks.map kD) := by
  cases d <;> first
    | (cases h; done)
    | (rw [keysA_kD (show keysA _ = some ks from h)])
theorem eqb_kD (a b : Key) : D.eqb (kD a) (kD b) = decide (a = b) := by
  cases a <;> cases b <;> simp [kD, D.eqb] <;> first
    | (rename_i x y; by_cases e : x = y <;> simp [e])
    | rfl
theorem eqbA_kD : ∀ (a b : List Key), D.eqbA (a.map kD) (b.map kD) = decide (a = b)
  | [], [] => by simp [D.eqbA]
  | [], _ :: _ => by simp [D.eqbA]
  | _ :: _, [] => by simp [D.eqbA]
  | x :: a, y :: b => by
    simp only [List.map_cons, D.eqbA, eqb_kD, eqbA_kD a b]
    by_cases h1 : x = y <;> by_cases h2 : a = b <;> simp [h1, h2]
section
variable {K : PySem.W.Frag} {F H F' H' : Hp}
/-- a dict's items against its data, whatever its keys' sort -/
theorem find_data {κ : Type} [DecidableEq κ] (enc : κ → D) (he : ∀ a b, D.eqb (enc a) (enc b) = decide (a = b)) (k : κ) : ∀ {kvs : List (κ × V)} {vs : List D}, DnA K F (kvs.map (·.2)) vs →
    match dFind (kvs.map fun p => enc p.1) vs (enc k) with
    | some d => ∃ v, valV kvs k = some v ∧ Dn K F v d
    | none => valV kvs k = none
  | [], vs, h => by
    cases h
    rfl
  | p :: kvs, vs, h => by
    cases h with
    | @cons v _ d ds hd ha =>
      simp only [List.map_cons, dFind, he]
      by_cases e : p.1 = k
      · simp only [e, decide_true, if_true]
        exact ⟨p.2, valV_pos e, hd⟩
      · simp only [e, decide_false, Bool.false_eq_true, if_false]
        have := find_data enc he k ha
        rw [valV_neg e]
        exact this
theorem has_data {κ : Type} [DecidableEq κ] (enc : κ → D) (he : ∀ a b, D.eqb (enc a) (enc b) = decide (a = b)) (k : κ) (kvs : List (κ × V)) : dHas (kvs.map fun p => enc p.1) (enc k) = (valV kvs k).isSome := by
  rw [← valV_any]
  unfold dHas
  rw [List.any_map]
  congr 1
  funext p
  exact he _ _
theorem put_data {κ : Type} [DecidableEq κ] (enc : κ → D) (he : ∀ a b, D.eqb (enc a) (enc b) = decide (a = b)) (k : κ) {v : V} {d : D} (hd : Dn K F v d) {kvs : List (κ × V)} {vs : List D} (h : DnA K F (kvs.map (·.2)) vs) :
    (putK kvs k v).map (fun p => enc p.1) = dPutK (kvs.map fun p => enc p.1) (enc k) ∧ DnA K F ((putK kvs k v).map (·.2)) (dPutW (kvs.map fun p => enc p.1) vs (enc k) d) := by
  unfold putK dPutK dPutW
  rw [has_data enc he, ← valV_any]
  by_cases hk : (kvs.any fun kv => decide (kv.1 = k)) = true
  · rw [if_pos hk, if_pos hk, if_pos hk]
    refine ⟨?_, ?_⟩
    · rw [List.map_map]
      congr 1
      funext p
      simp only [Function.comp]
      split <;> rfl
    · clear hk
      induction kvs generalizing vs with
      | nil => cases h; exact .nil
      | cons p kvs ih =>
        cases h with
        | @cons _ _ d' ds hd' ha =>
          simp only [List.map_cons, dPutV, he]
          refine .cons ?_ (ih ha)
          by_cases e : p.1 = k
          · simp only [e, decide_true, if_true]; exact hd
          · simp only [e, decide_false, Bool.false_eq_true, if_false]; exact hd'
  · rw [if_neg hk, if_neg hk, if_neg hk]
    refine ⟨by simp, ?_⟩
    rw [List.map_append]
    exact h.app (.cons hd .nil)
abbrev encT : List Key → D := fun ks => .tuple (ks.map kD)
theorem encT_eq (a b : List Key) : D.eqb (encT a) (encT b) = decide (a = b) := by
  show D.eqb (.tuple _) (.tuple _) = _
  unfold D.eqb
  exact eqbA_kD a b
theorem dna_keys : ∀ {ks : List Key} {xs : List V}, DnA K F xs (ks.map kD) → xs = ks.map kV
  | [], xs, h => by cases h; rfl
  | k :: ks, xs, h => by
    cases h with
    | cons h ha =>
      rw [dna_keys ha]
      cases k with
      | inl i => rw [show _ = _ from h.int_inv]; rfl
      | inr s => rw [show _ = _ from h.str_inv]; rfl
/-- the key in a dict of this sort (t: keys that are tuples) -/
def keyOk (t : Bool) (k : D) : Bool := if t = true then k.keyT.isSome else k.key.isSome
/-- a key's look-up in an object that is a dict -/
theorem dget_data {t : Bool} {a : Addr} {o : HO} {ks vs : List D} {xs : List V} {k : D} {y : V} (fh : Ex F H) (ha : H a = some o) (hc : DcO t o ks xs) (hd : DnA K F xs vs) (hk : keyOk t k = true) (hy : Dn K F y k) :
    ∃ r, DGet H a y r ∧ r.isSome = dHas ks k ∧ match dFind ks vs k with
      | some d => ∃ v, r = some v ∧ Dn K F v d
      | none => r = none := by
  rcases hc with ⟨rfl, kvs, rfl, rfl, rfl⟩ | ⟨rfl, kvs, rfl, rfl, rfl⟩
  · unfold keyOk at hk
    rw [if_neg Bool.false_ne_true] at hk
    obtain ⟨kk, e⟩ := Option.isSome_iff_exists.mp hk
    rw [key_kD e] at hy ⊢
    have hyv : y = kV kk := by
      cases kk with
      | inl i => exact hy.int_inv
      | inr s => exact hy.str_inv
    rw [hyv]
    refine ⟨_, DGet.k ha, (has_data kD eqb_kD kk kvs).symm, ?_⟩
    have := find_data kD eqb_kD kk hd
    exact this
  · unfold keyOk at hk
    rw [if_pos rfl] at hk
    obtain ⟨kk, e⟩ := Option.isSome_iff_exists.mp hk
    rw [keyT_kD e] at hy ⊢
    obtain ⟨b, zs, rfl, q1, q2⟩ := hy.tuple_invS
    have hz := dna_keys q2
    subst hz
    refine ⟨_, DGet.t ha (fh _ _ q1), (has_data encT encT_eq kk kvs).symm, ?_⟩
    exact find_data encT encT_eq kk hd
theorem dput_data {p t : Bool} {a : Addr} {o : HO} {ks vs : List D} {xs : List V} {k d : D} {y v : V} (fh : Ex F H) (ha : H a = some o) (hc : DcO t o ks xs) (hd : DnA K F xs vs) (hk : keyOk t k = true) (hy : Dn K F y k) (hv : Dn K F v d) (hz : ks.length < 16000000) :
    ∃ o' xs', DPut H a y v (upd H a o') ∧ CeO o' (.k p t (dPutK ks k) (dPutW ks vs k d)) xs' ∧ DnA K F xs' (dPutW ks vs k d) := by
  rcases hc with ⟨rfl, kvs, rfl, rfl, rfl⟩ | ⟨rfl, kvs, rfl, rfl, rfl⟩
  · unfold keyOk at hk
    rw [if_neg Bool.false_ne_true] at hk
    obtain ⟨kk, e⟩ := Option.isSome_iff_exists.mp hk
    rw [key_kD e] at hy ⊢
    have hyv : y = kV kk := by
      cases kk with
      | inl i => exact hy.int_inv
      | inr s => exact hy.str_inv
    rw [hyv]
    obtain ⟨e1, e2⟩ := put_data kD eqb_kD kk hv hd
    exact ⟨_, _, DPut.k ha (small_line (by simpa using hz)), .inl ⟨rfl, putK kvs kk v, rfl, e1, rfl⟩, e2⟩
  · unfold keyOk at hk
    rw [if_pos rfl] at hk
    obtain ⟨kk, e⟩ := Option.isSome_iff_exists.mp hk
    rw [keyT_kD e] at hy ⊢
    obtain ⟨b, zs, rfl, q1, q2⟩ := hy.tuple_invS
    have hz' := dna_keys q2
    subst hz'
    obtain ⟨e1, e2⟩ := put_data encT encT_eq kk hv hd
    exact ⟨_, _, DPut.t ha (fh _ _ q1) (small_line (by simpa using hz)), .inr ⟨rfl, putK kvs kk v, rfl, e1, rfl⟩, e2⟩
end
/-! ### rules for dicts -/
/-- {} (t: its keys will be tuples) -/
def mDNew (t : Bool) : M Ce := fun e => .ok (.k false t [] [], e)
def sDPut (i : Nat) (mk mv : M D) : En → Out := fun e => onR (mv e) fun v e1 => match e1[i]? with
  | some (some (.k _ _ _ _)) => onR (mk e1) fun k e2 => (match e2[i]? with
    | some (some (.k p t ks vs)) => if (keyOk t k = true ∧ ks.length < 16000000) then .nx (e2.set i (some (.k p t (dPutK ks k) (dPutW ks vs k v)))) else .no
    | _ => .no)
  | _ => .no
def dgetD : D → D → Rs Ce
  | .dict t ks vs, k => if keyOk t k = true then (match dFind ks vs k with
    | some d => .ok (.f d)
    | none => .no) else .no
  | _, _ => .no
section
variable {X : Cx} {K : PySem.W.Frag} {G : Bs} {F F1 H H1 : Hp} {σ : L2.St} {e e1 : En} {E : Ends} {v : V} {c : Ce} {d : D} {i : Nat} {a : Addr}
variable {st : Stmt} {sts : List Stmt} {ex ey ez tg : Expr} {es : List Expr} {pos pos' apos cpos : Pos} {x : Str}
theorem pn_dnewK : PN X (.Dict [] [] pos) (mDNew false) := PEimp pe_dnewK fun σ H Q ⟨G, F, e, c, e', r, hm, q⟩ => by
  cases hm
  intro p hp
  exact q _ F _ (r.step (Go.newO r.fh hp)) (.inr ⟨rfl, p, _, [], rfl, hp, ex_none r.fh hp, upd_same, .inl ⟨rfl, [], rfl, rfl, rfl⟩, .nil⟩)
theorem pn_dnewT : PN X (.Dict [] [] pos) (mDNew true) := PEimp pe_dnewT fun σ H Q ⟨G, F, e, c, e', r, hm, q⟩ => by
  cases hm
  intro p hp
  exact q _ F _ (r.step (Go.newO r.fh hp)) (.inr ⟨rfl, p, _, [], rfl, hp, ex_none r.fh hp, upd_same, .inr ⟨rfl, [], rfl, rfl, rfl⟩, .nil⟩)
theorem dict_at (h : e[i]? = some (some c)) (r : R K G F H σ e) {p t : Bool} {ks vs : List D} (hc : c = .k p t ks vs) : ∃ a o xs, σ[i]? = some (some (.ref a)) ∧ F a = none ∧ H a = some o ∧ DcO t o ks xs ∧ DnA K F xs vs := by
  subst hc
  obtain ⟨v0, s0, a0⟩ := r.at_ i _ h
  obtain ⟨a, o, xs, rfl, z1, z2, z3, z4, _⟩ := a0.own rfl
  exact ⟨a, o, xs, s0, z1, z2, z3, z4⟩
theorem pds_dput {mk mv : M D} (hu : X.A.units + 1 < cLine) (ho : PE X ex (tVar i)) (hi : PF X ey mk) (hv : PF X ez mv) (hs : swapsWith ez (some (.Subscript ex ey pos')) pos.line X.env = pure false := by rfl) :
    PDS X (.Assign [.Subscript ex ey pos'] ez pos) (sDPut i mk mv) := PSimp (ps_dput hu ho hi hv hs) fun E σ H ⟨G, F, e, r, hp⟩ => by
  obtain ⟨dv, e1, h1, hp⟩ := onR_inv hp
  refine ⟨G, F, e, dv, e1, r, h1, fun v F1 H1 n1 hdv => ?_⟩
  split at hp
  · rename_i p0 t0 ks0 vs0 g0
    obtain ⟨dk, e2, h2, hp⟩ := onR_inv hp
    obtain ⟨a, o0, xs0, s0, _⟩ := dict_at g0 n1.r rfl
    refine ⟨.ref a, s0, G, F1, e1, dk, e2, n1.r, h2, fun y F2 H2 n2 hdk => ?_⟩
    split at hp
    · rename_i p t ks vs g2
      by_cases hz : keyOk t dk = true ∧ ks.length < 16000000
      · rw [if_pos hz] at hp
        obtain ⟨a', o, xs, s1, y1, y2, y3, y4⟩ := dict_at g2 n2.r rfl
        rw [s0] at s1
        cases s1
        obtain ⟨o', xs', hput, hce, hdn⟩ := dput_data (p := p) n2.r.fh y2 y3 y4 hz.1 hdk (n2.dn hdv) hz.2
        refine ⟨a, _, rfl, hput, ?_⟩
        have n3 := n2.r.wr (c' := .k p t (dPutK ks dk) (dPutW ks vs dk dv)) g2 s0 rfl (by cases p <;> cases t <;> rfl) hce hdn
        exact hp F2 _ σ n3.r (n1.go.ff.trans n2.go.ff)
      · rw [if_neg hz] at hp
        exact hp.elim
    · exact hp.elim
  · exact hp.elim
/-- d[k], the key there -/
theorem pf_dget {md : M Hd} {mk : M D} (hu : X.A.units + 1 < cLine) (ho : PH X ex md) (hi : PF X ey mk) (hs : NoSl ey) : PN X (.Subscript ex ey pos) (m2 dgetD md (mH (mN mk))) := PEimp (pe_dget hu ho (ph_f hi) hs) fun σ H Q ⟨G, F, e, c, e', r, hm, q⟩ => by
  obtain ⟨x, e1, h1, hm⟩ := bind_ok2 hm
  obtain ⟨y, e2, h2, hm⟩ := bind_ok2 hm
  obtain ⟨dx, h3, hm⟩ := Rs.bind_eq hm
  obtain ⟨dy, h4, hm⟩ := Rs.bind_eq hm
  obtain ⟨c', h5, hm⟩ := Rs.bind_eq hm
  cases hm
  refine ⟨G, F, e, x, e1, r, h1, fun vx F1 H1 n1 hx => ⟨G, F1, e1, y, _, n1.r, h2, fun vy F2 H2 n2 hy => ?_⟩⟩
  obtain ⟨cy, e3, h6, h7⟩ := bind_ok2 h2
  obtain ⟨dk, e4, h8, h9⟩ := bind_ok2 h6
  cases h9
  cases h7
  cases h4
  have hdk : Dn X.K F2 vy dk := by
    rcases hy with ⟨d, q1, q2⟩ | ⟨_, a, o, xs, _, _, _, _, _, q1, _⟩
    · cases q1; exact q2
    · exact q1.elim
  have hdx : ∃ t ks vs, dx = .dict t ks vs := by
    cases dx <;> first
      | exact ⟨_, _, _, rfl⟩
      | (cases h5; done)
  obtain ⟨t, ks, vs, rfl⟩ := hdx
  unfold dgetD at h5
  obtain ⟨hk, h5⟩ := ite_ok h5
  obtain ⟨a, o, xs, rfl, q1, q2, q3⟩ := ((hx.nx n2).vw n2.r h3).dict n2.r.fh
  obtain ⟨rr, g1, g2, g3⟩ := dget_data n2.r.fh q1 q2 q3 hk hdk
  split at h5
  · rename_i d hf
    cases h5
    simp only [hf] at g3
    obtain ⟨w, rfl, g4⟩ := g3
    exact ⟨a, w, rfl, g1, q w F2 H2 (n1.trans n2) (.inl ⟨d, rfl, g4⟩)⟩
  · cases h5
/-! ### two at once: x, y = a, b, new lists and dicts too -/
def sParN (i j : Nat) (ma mb : M Ce) : En → Out := fun e => onR (ma e) fun c1 e1 => onR (mb e1) fun c2 e2 => if (ioAt e2 i || ioAt e2 j) = true then .no else .nx ((e2.set i (some c1)).set j (some c2))
theorem ioAt_setN {i j : Nat} (hc : c.io = false) (h : ioAt e j = false) : ioAt (e.set i (some c)) j = false := by
  unfold ioAt at h ⊢
  by_cases hj : j = i
  · subst hj
    by_cases hl : j < e.length
    · rw [List.getElem?_set_self hl]; exact hc
    · rw [List.getElem?_eq_none (by simpa using Nat.le_of_not_lt hl)]
  · rw [List.getElem?_set_ne (Ne.symm hj)]; exact h
theorem NAt.io {H F' H' : Hp} (h : NAt K H F' H' c v) : c.io = false := by
  rcases h with ⟨d, rfl, _⟩ | ⟨h, _⟩
  · rfl
  · exact h
theorem pds_parN {i j : Nat} {x y : Str} {px py pt : Pos} {kt k2 : Nat} {pt2 : Pos} {ma mb : M Ce} (hc : X.calm = true) (hN : X.N.Nodup) (hi : X.N[i]? = some x) (hj : X.N[j]? = some y) (hij : i ≠ j)
    (hx : X.env.scope.names.lookup x = some .local) (hy : X.env.scope.names.lookup y = some .local) (ha : PN X ex ma) (hb : PN X ey mb)
    (hw : swappedStores [.Tuple [.Name x px, .Name y py] kt pt] (.Tuple [ex, ey] k2 pt2) X.env = pure (some [x, y]))
    (hs1 : starEach [ex, ey] X.env = (false, eval ex X.env) :: starEach [ey] X.env := by rfl) (hs2 : starEach [ey] X.env = (false, eval ey X.env) :: starEach [] X.env := by rfl)
    (hs : swapsWithSole [.Tuple [.Name x px, .Name y py] kt pt] (.Tuple [ex, ey] k2 pt2) pos.line X.env = pure false := by rfl) : PDS X (.Assign [.Tuple [.Name x px, .Name y py] kt pt] (.Tuple [ex, ey] k2 pt2) pos) (sParN i j ma mb) :=
  PSimp (ps_par hc hN hi hj hij hx hy (pa_cons ha (pa_cons hb pa_nil hs2) hs1) hw hs) fun E σ H ⟨G, F, e, r, hp⟩ => by
    obtain ⟨c1, e1, h1, hp⟩ := onR_inv hp
    obtain ⟨c2, e2, h2, hp⟩ := onR_inv hp
    obtain ⟨hio, hp⟩ := post_ite hp
    obtain ⟨h3, h4⟩ := Bool.or_eq_false_iff.mp hio
    refine ⟨G, F, e, c1, e1, r, h1, fun v1 F1 H1 n1 a1 => ⟨G, F1, e1, c2, e2, n1.r, h2, fun v2 F2 H2 n2 a2 => ⟨v1, v2, rfl, ?_⟩⟩⟩
    have hat1 := (a1.hat r n1).nx n2
    have r1 := n2.r.set (i := i) h3 hat1
    refine hp F2 H2 _ (r1.set (i := j) (ioAt_setN a1.io h4) ?_) (n1.go.ff.trans n2.go.ff)
    rcases a2 with ⟨d, q1, q2⟩ | ⟨q1, a, o, xs, rfl, q2, q3, q4, q5, q6⟩
    · exact .inl ⟨d, q1, q2⟩
    · obtain ⟨z1, z2, _⟩ := n1.r.new q2
      refine .inr ⟨q1, a, o, xs, rfl, z2, q3, q4, fun ⟨k, ck, g1, g2, g3⟩ => ?_, q5, q6⟩
      by_cases hk : k = i
      · subst hk
        have hl : k < e2.length := by
          have := (List.getElem?_eq_some_iff.mp g1).1
          simpa using this
        rw [List.getElem?_set_self hl] at g1
        cases g1
        rw [List.getElem?_set_self (by rw [← n2.r.len]; exact hl)] at g3
        cases g3
        rcases a1 with ⟨d, q7, _⟩ | ⟨_, b, u, ys, q7, w1, w2, w3, _⟩
        · rw [q7] at g2; cases g2
        · cases q7
          rw [q2] at w3
          cases w3
      · rw [List.getElem?_set_ne (Ne.symm hk)] at g1 g3
        exact z1 (sh_lv n2.sh ⟨k, ck, g1, g2, g3⟩)
/-! ### x[i] = e, x a list of one's own -/
def sLPut (i : Nat) (mj mv : M D) : En → Out := fun e => onR (mv e) fun v e1 => match e1[i]? with
  | some (some (.l _ _)) => onR (mj e1) fun k e2 => (match e2[i]?, k with
    | some (some (.l p ds)), .int j => (match ixN ds.length j with
      | some jj => .nx (e2.set i (some (.l p (ds.set jj v))))
      | none => .no)
    | _, _ => .no)
  | _ => .no
theorem pds_lput {mj mv : M D} (ho : PE X ex (tVar i)) (hi : PF X ey mj) (hv : PF X ez mv) (hs : swapsWithSole [.Subscript ex ey pos'] ez pos.line X.env = pure false := by rfl) (hw : swappedStores [.Subscript ex ey pos'] ez X.env = pure none := by rfl)
    (h1 : (assignEach [.Subscript ex ey pos'] X.env).map (·.2) = [assign (.Subscript ex ey pos') X.env] := by rfl)
    (ha : ∀ v, assign (.Subscript ex ey pos') X.env v = (do
      let ov ← holding [v] (eval ex X.env)
      let iv ← holding [v, ov] (eval ey X.env)
      standAt pos'
      holding [v, ov, iv] (setItem ov iv v)
      release [v, ov, iv] []) := by intro _; rfl) :
    PDS X (.Assign [.Subscript ex ey pos'] ez pos) (sLPut i mj mv) := PSimp (ps_asg hv (pg_sub ho hi set_list ha) hs hw h1) fun E σ H ⟨G, F, e, r, hp⟩ => by
  obtain ⟨dv, e1, h1, hp⟩ := onR_inv hp
  refine ⟨G, F, e, dv, e1, r, h1, fun v F1 H1 n1 hdv => ?_⟩
  split at hp
  · rename_i p0 ds0 g0
    obtain ⟨dk, e2, h2, hp⟩ := onR_inv hp
    obtain ⟨a, xs0, s0, _⟩ := lst_at g0 n1.r rfl
    refine ⟨.ref a, s0, G, F1, e1, dk, e2, n1.r, h2, fun y F2 H2 n2 hdk => ?_⟩
    split at hp
    · rename_i p ds j g2
      split at hp
      · rename_i jj hj
        obtain ⟨a', xs, s1, y1, y2, y4⟩ := lst_at g2 n2.r rfl
        rw [s0] at s1
        cases s1
        refine ⟨a, xs, j, jj, rfl, hdk.int_inv, y2, by rw [y4.len]; exact hj, ?_⟩
        have n3 := n2.r.wr (c' := .l p (ds.set jj dv)) g2 s0 rfl (by cases p <;> rfl) (o' := .lst (xs.set jj v)) (xs' := xs.set jj v) rfl (y4.set jj (n2.dn hdv))
        exact hp F2 _ σ n3.r (n1.go.ff.trans n2.go.ff)
      · exact hp.elim
    · exact hp.elim
  · exact hp.elim
end
/-! ### built-in functions once more -/
section
variable {K : PySem.W.Frag} {F H F' H' : Hp}
def rLenA (K : PySem.W.Frag) : List V → Hp → VK → Prop := fun xs H Q => (∃ x n, xs = [x] ∧ LenV K x H n ∧ Q (.int n) H) ∨ (∃ a kvs, xs = [V.ref a] ∧ H a = some (.dK kvs) ∧ Q (.int kvs.length) H) ∨ rLenT xs H Q
theorem call_lenA {X : Cx} : CallR X (.builtin "len") (rLenA X.K) := call_len.or (call_lenD.or call_len_dT)
theorem snd_len : SndL K (rLenA K) lenD := fun F H xs ds c Q fh hx hg q => by
  unfold lenD at hg
  split at hg
  · obtain ⟨h1, hg⟩ := ite_ok hg
    cases hg
    obtain ⟨x, rfl, h⟩ := hx.one (ds := [])
    rw [h.str]
    exact .inl ⟨_, _, rfl, ⟨h1, rfl⟩, ret1 fh (.int _) rfl q⟩
  · cases hg
    obtain ⟨x, rfl, h⟩ := hx.one (ds := [])
    obtain ⟨a, xs, rfl, h3, h4⟩ := h.list fh
    exact .inl ⟨_, _, rfl, .inl ⟨xs, SqL.of h3, rfl⟩, ret1 fh (.int _) (by rw [h4.len]) q⟩
  · cases hg
    obtain ⟨x, rfl, h⟩ := hx.one (ds := [])
    obtain ⟨a, xs, rfl, h3, h4⟩ := h.ro fh
    exact .inl ⟨_, _, rfl, .inl ⟨xs, h3, rfl⟩, ret1 fh (.int _) (by rw [h4.len]) q⟩
  · cases hg
    obtain ⟨x, rfl, h⟩ := hx.one (ds := [])
    obtain ⟨a, xs, rfl, h3, h4, _⟩ := h.tuple fh
    exact .inl ⟨_, _, rfl, .inr ⟨xs, h3, rfl⟩, ret1 fh (.int _) (by rw [h4.len]) q⟩
  · cases hg
    obtain ⟨x, rfl, h⟩ := hx.one (ds := [])
    obtain ⟨a, o, xs, rfl, h3, h4, h5⟩ := h.dict fh
    rcases h4 with ⟨_, kvs, rfl, rfl, rfl⟩ | ⟨_, kvs, rfl, rfl, rfl⟩
    · exact .inr (.inl ⟨a, kvs, rfl, h3, ret1 fh (.int _) (by rw [List.length_map]) q⟩)
    · exact .inr (.inr ⟨a, kvs, rfl, h3, ret1 fh (.int _) (by rw [List.length_map]) q⟩)
  · cases hg
def tupleD : List D → Rs Ce
  | [.list ds] => .ok (.f (.tuple ds))
  | [.tuple ds] => .ok (.f (.tuple ds))
  | _ => .no
def rTupA (K : PySem.W.Frag) : List V → Hp → VK → Prop := fun xs H Q => ∃ p ys, xs = [.ref p] ∧ ((SqL K H p ys ∧ ∀ l, H l = none → Q (.ref l) (upd H l (.tup ys))) ∨ (SqT K H p ys ∧ Q (.ref p) H))
theorem snd_tuple : SndL K (rTupA K) tupleD := fun F H xs ds c Q fh hx hg q => by
  unfold tupleD at hg
  split at hg
  · cases hg
    obtain ⟨x, rfl, h⟩ := hx.one (ds := [])
    obtain ⟨a, xs, rfl, h3, h4⟩ := h.list fh
    refine ⟨a, xs, rfl, .inl ⟨SqL.of h3, fun l hl => ?_⟩⟩
    have go : Go F H (upd F l (.tup xs)) (upd H l (.tup xs)) noA := Go.newF fh hl
    exact q _ _ _ go (.inl ⟨_, rfl, .tup upd_same (h4.mono go.ff)⟩)
  · cases hg
    obtain ⟨x, rfl, h⟩ := hx.one (ds := [])
    obtain ⟨a, xs, rfl, h3, h4, h5⟩ := h.tuple fh
    exact ⟨a, xs, rfl, .inr ⟨h3, ret1 fh h5 rfl q⟩⟩
  · cases hg
def listD : List D → Rs Ce
  | [.list ds] => .ok (.l false ds)
  | [.ro ds] => .ok (.l false ds)
  | [.tuple ds] => .ok (.l false ds)
  | _ => .no
def rListA (K : PySem.W.Frag) : List V → Hp → VK → Prop := fun xs H Q => ∃ p ys, xs = [.ref p] ∧ (SqL K H p ys ∨ SqT K H p ys) ∧ ∀ l, H l = none → Q (.ref l) (upd H l (.lst ys))
theorem snd_list : SndL K (rListA K) listD := fun F H xs ds c Q fh hx hg q => by
  have key : ∀ (a : Addr) (ys : List V) (es : List D), DnA K F ys es → (SqL K H a ys ∨ SqT K H a ys) → c = .l false es → xs = [.ref a] → rListA K xs H Q := fun a ys es hd hs hc hxs =>
    ⟨a, ys, hxs, hs, fun l hl => q _ F _ (Go.newO fh hl) (.inr ⟨by rw [hc]; rfl, l, _, ys, rfl, hl, ex_none fh hl, upd_same, by rw [hc]; rfl, by rw [hc]; exact hd⟩)⟩
  unfold listD at hg
  split at hg
  · cases hg
    obtain ⟨x, rfl, h⟩ := hx.one (ds := [])
    obtain ⟨a, ys, rfl, h3, h4⟩ := h.list fh
    exact key a ys _ h4 (.inl (SqL.of h3)) rfl rfl
  · cases hg
    obtain ⟨x, rfl, h⟩ := hx.one (ds := [])
    obtain ⟨a, ys, rfl, h3, h4⟩ := h.ro fh
    exact key a ys _ h4 (.inl h3) rfl rfl
  · cases hg
    obtain ⟨x, rfl, h⟩ := hx.one (ds := [])
    obtain ⟨a, ys, rfl, h3, h4, _⟩ := h.tuple fh
    exact key a ys _ h4 (.inr h3) rfl rfl
  · cases hg
end
/-! ### isinstance -/
def D.ty : D → String
  | .none => "NoneType" | .bool _ => "bool" | .int _ => "int" | .str _ => "str" | .list _ => "list" | .ro _ => "list" | .tuple _ => "tuple" | .dict _ _ _ => "dict"
def isT (T : String) (d : D) : Bool := d.ty == T || (T == "int" && d.ty == "bool")
def mIs (T : String) (m : M Hd) : M D := fun e => (m e).bind fun p => (p.1.get p.2).bind fun d => .ok (.bool (isT T d), p.2)
/-- a class that isinstance is asked for -/
structure TyOk (T : String) : Prop where
  ok : ∀ n ∈ ["NoneType", "bool", "int", "str", "list", "tuple", "dict"], kitB n T = some (n == T || (T == "int" && n == "bool"))
theorem tyOk_int : TyOk "int" := ⟨by decide +kernel⟩
theorem tyOk_bool : TyOk "bool" := ⟨by decide +kernel⟩
theorem tyOk_str : TyOk "str" := ⟨by decide +kernel⟩
theorem tyOk_tuple : TyOk "tuple" := ⟨by decide +kernel⟩
theorem tyOk_list : TyOk "list" := ⟨by decide +kernel⟩
theorem tyOk_dict : TyOk "dict" := ⟨by decide +kernel⟩
section
variable {X : Cx} {K : PySem.W.Frag} {F H : Hp} {ex : Expr} {pos p p2 : Pos}
theorem sqL_ty {a : Addr} {xs : List V} (h : SqL K H a xs) : TyX K H (.ref a) (.type "list") := by
  rcases h with (h | ⟨o, h⟩) | ⟨o, its, n, hk, hc, _⟩
  · exact .base (.lst h)
  · exact .base (.frz h)
  · exact .kList hk hc
theorem Vw.ty {d : D} {v : V} (h : Vw K F H d v) (fh : Ex F H) : TyX K H v (.type d.ty) := by
  cases d with
  | none => rw [h.none]; exact .base .non
  | bool b => rw [h.bool]; exact .base (.bl b)
  | int i => rw [h.int]; exact .base (.int i)
  | str s => rw [h.str]; exact .base (.str s)
  | list ds =>
    obtain ⟨a, xs, rfl, h1, _⟩ := h.list fh
    exact .base (.lst h1)
  | ro ds =>
    obtain ⟨a, xs, rfl, h1, _⟩ := h.ro fh
    exact sqL_ty h1
  | tuple ds =>
    obtain ⟨a, xs, rfl, h1, _, h2⟩ := h.tuple fh
    obtain ⟨a', xs', e, h3, _⟩ := h2.tuple_invS
    cases e
    exact .base (.tup (fh _ _ h3))
  | dict t ks vs =>
    obtain ⟨a, o, xs, rfl, h1, h2, _⟩ := h.dict fh
    rcases h2 with ⟨_, kvs, rfl, _⟩ | ⟨_, kvs, rfl, _⟩
    · exact .base (.dK h1)
    · exact .base (.dT h1)
theorem pf_isi {T : String} {y : Str} {m : M Hd} (to : TyOk T) (hg : Gl X "isinstance") (hm : X.mg "isinstance" = none) (h : PH X ex m) (gy : Gl X y) (my : X.mg y = none) (by_ : bootBuiltins y = some (.type T)) (ny : y ≠ "__name__" := by decide) (dy : (y == ("__debug__" : Str)) = false := by decide)
    (he : starEach [ex, .Name y p2] X.env = (false, eval ex X.env) :: starEach [.Name y p2] X.env := by rfl) (hs2 : starEach [.Name y p2] X.env = (false, eval (.Name y p2) X.env) :: starEach [] X.env := by rfl) (hpl : (backTo pos (starEach [.Name y p2] X.env)).any (·.1) = false := by rfl) :
    PF X (.Call (.Name "isinstance" p) [ex, .Name y p2] [] pos) (mIs T m) :=
  PEimp (pe_callB call_isi hg hm (show bootBuiltins "isinstance" = some (.builtin "isinstance") by decide +kernel) (pa_cons h (pa_cons (pe_bltn (v := .ty T) gy my by_ rfl ny dy) pa_nil hs2) he) (by decide) (by decide) he hpl) fun σ H Q ⟨G, F, e, d, e', r, hm, q⟩ => by
    obtain ⟨hd, e1, h1, hm⟩ := bind_ok2 hm
    obtain ⟨dx, h2, hm⟩ := Rs.bind_eq hm
    cases hm
    refine ⟨G, F, e, hd, _, r, h1, fun v F1 H1 n hv => ⟨v, .ty T, .type dx.ty, .type T, isT T dx, rfl, .ty T, (hv.vw n.r h2).ty n.r.fh, ?_, q _ F1 H1 n (.bl _)⟩⟩
    refine kit_ty ?_
    have : dx.ty ∈ ["NoneType", "bool", "int", "str", "list", "tuple", "dict"] := by cases dx <;> simp [D.ty]
    exact to.ok _ this
/-- "..".join(texts) -/
def textsOf : List D → Option (List Str)
  | [] => some []
  | .str s :: ds => (textsOf ds).map fun ss => s :: ss
  | _ :: _ => none
def joinD : D → D → Rs Ce
  | .str a, .list ds => (match textsOf ds with
    | some ys => if (ys.map (·.length)).sum + ys.length * a.length ≤ 16777216 then .ok (.f (.str (Txt.join a ys))) else .no
    | none => .no)
  | .str a, .tuple ds => (match textsOf ds with
    | some ys => if (ys.map (·.length)).sum + ys.length * a.length ≤ 16777216 then .ok (.f (.str (Txt.join a ys))) else .no
    | none => .no)
  | _, _ => .no
theorem textsOf_eq : ∀ {ds : List D} {ys : List Str}, textsOf ds = some ys → ds = ys.map .str
  | [], ys, h => by cases h; rfl
  | d :: ds, ys, h => by
    cases d <;> first
      | (cases h; done)
      | skip
    unfold textsOf at h
    cases q : textsOf ds with
    | none => rw [q] at h; cases h
    | some zs =>
      rw [q] at h
      cases h
      rw [textsOf_eq q]
      rfl
/-- a method of a text with one argument that is first a text -/
def mJoin (ma mb : M Hd) : M Ce := fun e => (ma e).bind fun p => (p.1.get p.2).bind fun x => if isT "str" x = true then (mb p.2).bind fun q => (q.1.get q.2).bind fun y => (joinD x y).bind fun c => .ok (c, q.2) else .no
theorem pn_join {apos : Pos} {eo : Expr} {ma mb : M Hd} (ho : PH X eo ma) (he : PH X ex mb) (hs : starEach [ex] X.env = [(false, eval ex X.env)] := by rfl) (hbase : attributeBase eo "join" X.env (eval eo X.env) = eval eo X.env := by rfl) (hline : (apos.endLine == pos.line) = true := by rfl) :
    PN X (.Call (.Attribute eo "join" apos) [ex] [] pos) (mJoin ma mb) := PEimp (pe_join ho he hs hbase hline) fun σ H Q ⟨G, F, e, c, e', r, hm, q⟩ => by
  obtain ⟨x, e1, h1, hm⟩ := bind_ok2 hm
  obtain ⟨dx, h2, hm⟩ := Rs.bind_eq hm
  obtain ⟨hx, hm⟩ := ite_ok hm
  obtain ⟨y, e2, h3, hm⟩ := bind_ok2 hm
  obtain ⟨dy, h4, hm⟩ := Rs.bind_eq hm
  obtain ⟨c', h5, hm⟩ := Rs.bind_eq hm
  cases hm
  have hdx : ∃ s, dx = .str s := by
    cases dx <;> first
      | exact ⟨_, rfl⟩
      | (simp [isT, D.ty] at hx; done)
  obtain ⟨s, rfl⟩ := hdx
  refine ⟨G, F, e, x, e1, r, h1, fun vx F1 H1 n1 hvx => ⟨⟨s, (hvx.vw n1.r h2).str⟩, G, F1, e1, y, _, n1.r, h3, fun vy F2 H2 n2 hvy => ?_⟩⟩
  rw [(hvx.vw n1.r h2).str]
  have vw := hvy.vw n2.r h4
  have nn := n1.trans n2
  cases dy <;> first
    | (cases h5; done)
    | skip
  · rename_i ds
    simp only [joinD] at h5
    split at h5
    · rename_i ys hy
      obtain ⟨hz, h5⟩ := ite_ok h5
      cases h5
      obtain ⟨a, xs, rfl, g1, g2⟩ := vw.list n2.r.fh
      rw [textsOf_eq hy] at g2
      rw [g2.strs] at g1
      exact ⟨s, a, ys, rfl, rfl, .inl (SqL.of g1), hz, q _ F2 H2 nn (.inl ⟨_, rfl, .str _⟩)⟩
    · cases h5
  · rename_i ds
    simp only [joinD] at h5
    split at h5
    · rename_i ys hy
      obtain ⟨hz, h5⟩ := ite_ok h5
      cases h5
      obtain ⟨a, xs, rfl, g1, g2, _⟩ := vw.tuple n2.r.fh
      rw [textsOf_eq hy] at g2
      rw [g2.strs] at g1
      exact ⟨s, a, ys, rfl, rfl, .inr g1, hz, q _ F2 H2 nn (.inl ⟨_, rfl, .str _⟩)⟩
    · cases h5
end
end DL

namespace DL
open PySem L2 PyProof.Rows
/-! ### what stands among the built-ins -/
theorem bt_len : bootBuiltins "len" = some (.builtin "len") := by decide +kernel
theorem bt_abs : bootBuiltins "abs" = some (.builtin "abs") := by decide +kernel
theorem bt_min : bootBuiltins "min" = some (.builtin "min") := by decide +kernel
theorem bt_max : bootBuiltins "max" = some (.builtin "max") := by decide +kernel
theorem bt_sum : bootBuiltins "sum" = some (.builtin "sum") := by decide +kernel
theorem bt_sorted : bootBuiltins "sorted" = some (.builtin "sorted") := by decide +kernel
theorem bt_all : bootBuiltins "all" = some (.builtin "all") := by decide +kernel
theorem bt_any : bootBuiltins "any" = some (.builtin "any") := by decide +kernel
theorem bt_divmod : bootBuiltins "divmod" = some (.builtin "divmod") := by decide +kernel
theorem bt_int : bootBuiltins "int" = some (.type "int") := by decide +kernel
theorem bt_bool : bootBuiltins "bool" = some (.type "bool") := by decide +kernel
theorem bt_str : bootBuiltins "str" = some (.type "str") := by decide +kernel
theorem bt_tuple : bootBuiltins "tuple" = some (.type "tuple") := by decide +kernel
theorem bt_list : bootBuiltins "list" = some (.type "list") := by decide +kernel
theorem bt_dict : bootBuiltins "dict" = some (.type "dict") := by decide +kernel
/-! ### walks over lists or tuples -/
section
variable {X : Cx} {tg ex ey : Expr} {es : List Expr} {pos p : Pos} {x : Str}
def iSeq (K : PySem.W.Frag) (tl : TE) : TI := fun σ H R => tl σ H fun x H1 => ∃ a, x = .ref a ∧ (((∃ xs, SqL K H1 a xs) ∧ R (Itl K a) H1) ∨ ((∃ xs, SqT K H1 a xs) ∧ R (Itt K a) H1))
theorem pi_seq {l : Expr} {tl : TE} (hl : PE X l tl) : PI X tg l (iSeq X.K tl) := by
  refine ⟨fun pins s σ H R I h => ?_⟩
  refine thn (hl.run pins s σ H _ I h) fun v s1 ⟨x, H1, I1, r1, q1⟩ => ?_
  obtain ⟨a, e, q1⟩ := q1
  subst e
  cases r1
  rcases q1 with ⟨⟨xs, hq⟩, q⟩ | ⟨⟨xs, hq⟩, q⟩
  · obtain ⟨its, rv, p, hz⟩ := I1.list hq
    refine wpAny_pyIter_list p.isList ?_
    refine ⟨s1.heap.objs.size, [s1.heap.objs.size], _, _, H1, rfl, I1.kept (t' := s1.toks) fun b o e => Heap.get?_push_of_some _ e, turn_list a _, ⟨_, Heap.get?_push_size _ rfl, rfl, rfl⟩, fun b hb => ?_, q⟩
    have e : b = s1.heap.objs.size := by simpa using hb
    subst e
    exact I1.fpOk (Nat.le_refl _) (I1.hok.fresh (Nat.le_refl _))
  · obtain ⟨its, rv, p, hz⟩ := I1.tuple hq
    refine wpAny_pyIter_tuple (show s1.heap.IsTuple a its.toArray from p) ?_
    refine ⟨s1.heap.objs.size, [s1.heap.objs.size], _, _, H1, rfl, I1.kept (t' := s1.toks) fun b o e => Heap.get?_push_of_some _ e, turn_tuple a _, ⟨_, Heap.get?_push_size _ rfl, rfl, rfl⟩, fun b hb => ?_, q⟩
    have e : b = s1.heap.objs.size := by simpa using hb
    subst e
    exact I1.fpOk (Nat.le_refl _) (I1.hok.fresh (Nat.le_refl _))
def D.items : D → Rs (List D)
  | .list ds => .ok ds
  | .ro ds => .ok ds
  | .tuple ds => .ok ds
  | _ => .no
def mSeqA (m : M D) : M (List D) := fun e => (m e).bind fun p => p.1.items.bind fun ds => .ok (ds, p.2)
theorem pid_seq {m : M D} (h : PF X ex m) : PId X tg ex (mSeqA m) := PIimp (pi_seq h) fun σ H Q ⟨G, F, e, ds, e', r, hm, q⟩ => by
  obtain ⟨d, e1, h1, hm⟩ := bind_ok2 hm
  obtain ⟨ds', h2, hm⟩ := Rs.bind_eq hm
  cases hm
  have keyL : ∀ v F' H', Nx X.K G σ F H e F' H' e1 → (∃ a xs, v = V.ref a ∧ SqL X.K F' a xs ∧ DnA X.K F' xs ds) → ∃ a, v = V.ref a ∧ (((∃ xs, SqL X.K H' a xs) ∧ Q (Itl X.K a) H') ∨ ((∃ xs, SqT X.K H' a xs) ∧ Q (Itt X.K a) H')) := fun v F' H' n ⟨a, xs, hv, hl, hd⟩ => by
    refine ⟨a, hv, .inl ⟨⟨xs, Evl.ex_l n.r.fh hl⟩, q _ F' H' n ?_⟩⟩
    intro i F2 H2 x1 x2
    have hx := x1.trans x2
    refine ⟨fun d hi => ?_, fun hi => ?_⟩
    · obtain ⟨w, h1, h2⟩ := hd.get hi
      refine ⟨⟨xs, w, Evl.ex_l hx hl, h1⟩, fun x H3 y => ?_⟩
      obtain ⟨rfl, y⟩ := y
      have := y xs (Evl.ex_l hx hl)
      rw [h1] at this
      cases this
      exact ⟨F2, Go.refl x2, h2.mono x1⟩
    · exact ⟨xs, Evl.ex_l hx hl, by rw [hd.len]; exact List.getElem?_eq_none_iff.mp hi⟩
  cases d <;> first
    | (cases h2; done)
    | skip
  · cases h2
    refine ⟨G, F, e, _, _, r, h1, fun v F' H' n hn => keyL v F' H' n ?_⟩
    obtain ⟨a, xs, q1, q2, q3⟩ := hn.list_inv
    exact ⟨a, xs, q1, SqL.of q2, q3⟩
  · cases h2
    refine ⟨G, F, e, _, _, r, h1, fun v F' H' n hn => ?_⟩
    obtain ⟨a, xs, hv, hl, hd⟩ := hn.tuple_inv
    refine ⟨a, hv, .inr ⟨⟨xs, Evl.ex_t n.r.fh hl⟩, q _ F' H' n ?_⟩⟩
    intro i F2 H2 x1 x2
    have hx := x1.trans x2
    refine ⟨fun d hi => ?_, fun hi => ?_⟩
    · obtain ⟨w, h1, h2⟩ := hd.get hi
      refine ⟨⟨xs, w, Evl.ex_t hx hl, h1⟩, fun x H3 y => ?_⟩
      obtain ⟨rfl, y⟩ := y
      have := y xs (Evl.ex_t hx hl)
      rw [h1] at this
      cases this
      exact ⟨F2, Go.refl x2, h2.mono x1⟩
    · exact ⟨xs, Evl.ex_t hx hl, by rw [hd.len]; exact List.getElem?_eq_none_iff.mp hi⟩
  · cases h2
    exact ⟨G, F, e, _, _, r, h1, fun v F' H' n hn => keyL v F' H' n hn.ro_inv⟩
end
/-! ### defs by name -/
section
variable {P : Program} {w : World} {K : PySem.W.Frag} {mg : Str → Option Value} {base : Heap}
/-- the def x of the module keeps its promise S, by level k -/
structure DFn (P : Program) (w : World) (K : PySem.W.Frag) (mg : Str → Option Value) (base : Heap) (x : Str) (k : Nat) (S : Sf) : Prop where
  ok : ∃ f fd ps, FnD P w K mg base k f fd ps S ∧ mg x = some (.ref f) ∧ PySem.W.keepIn K (.ref f) = true ∧ Binds K fd ps []
theorem DFn.mono {x : Str} {j k : Nat} {S : Sf} (h : DFn P w K mg base x j S) (hk : j ≤ k) : DFn P w K mg base x k S := by
  obtain ⟨f, fd, ps, h1, h2⟩ := h.ok
  exact ⟨f, fd, ps, FnOk.mono h1 hk, h2⟩
theorem DFn.imp {x : Str} {k : Nat} {S S' : Sf} (h : DFn P w K mg base x k S) (hs : ∀ cs r, S' cs = .ok r → S cs = .ok r) : DFn P w K mg base x k S' := by
  obtain ⟨f, fd, ps, h1, h2⟩ := h.ok
  exact ⟨f, fd, ps, FnD.imp h1 hs, h2⟩
/-- where the def x stands -/
structure At1 (K : PySem.W.Frag) (mg : Str → Option Value) (x : Str) (st : Stmt) (ps : List Str) (f : Addr) (fd : FuncData) : Prop where
  fn : Fun K x x st f fd
  gl : mg x = some (.ref f)
  bi : Binds K fd ps []
theorem dfn_ok {x : Str} {st : Stmt} {f : Addr} {fd : FuncData} {N ps : List Str} {k : Nat} {S : Sf} (A : At1 K mg x st ps f fd) (Sc : FnScope N ps (defScope st)) (hN : ps.length ≤ N.length) (m : En → Out)
    (hb : ∀ (cdv : Value) (A : Around) (outer : List PySem.Env) (s : Shared) (H : Hp) (E : XK), Room k (A.deeper (envOfC x (defScope st) s.heap.objs.size f cdv)) → PDs (XX P w K mg base N x (defScope st) f cdv A outer s H E) (defBody st) m)
    (hS : ∀ cs c outs, S cs = .ok (c, outs) → cs.length = ps.length ∧ runD N.length m cs = .ok (c, outs)) : DFn P w K mg base x (k + 1) S :=
  ⟨f, fd, ps, fnD_ok A.fn Sc hN m hb hS, A.gl, A.fn.kp, A.bi⟩
end
section
variable {X : Cx} {ex : Expr} {es : List Expr} {pos p : Pos} {x : Str}
theorem pn_cd {j k : Nat} {S : Sf} {ma : M (List Ag)} (c : DFn X.prog X.w X.K X.mg X.base x j S) (hr : Room k X.A) (hjk : j ≤ k) (hg : Gl X x) (ha : PAg X (ex :: es) ma)
    (hdb : (x == ("__debug__" : Str)) = false := by decide) (he : starEach (ex :: es) X.env = (false, eval ex X.env) :: starEach es X.env := by rfl) (hpl : (backTo pos (starEach es X.env)).any (·.1) = false := by rfl) :
    PN X (.Call (.Name x p) (ex :: es) [] pos) (mCall S ma) := by
  obtain ⟨f, fd, ps, h1, h2, h3, h4⟩ := c.ok
  exact pn_call h1 (hr.mono hjk) hg h2 h3 h4 ha hdb he hpl
theorem hu1 {A : Around} {k : Nat} (hr : Room k A) : A.units + 1 < cLine := hu_of hr
theorem hu64 {A : Around} {k : Nat} (hr : Room k A) : A.units + 64 < cLine := hr.units
theorem hu65 {A : Around} {k : Nat} (hr : Room k A) : A.units + 65 < cLine := by have := hr.un; omega
end
/-! ### a law -/
open Classical in
/-- what is asked of a law: True of every list of at most n ints -/
noncomputable def lawS (n : Nat) : Sf := fun cs => if ∃ ns : List Int, ns.length ≤ n ∧ cs = [.f (.ro (ns.map .int))] then .ok (.f (.bool true), []) else .no
open Classical in
theorem lawS_ok {n : Nat} {cs : List Ce} {c : Ce} {outs : List Ce} (h : lawS n cs = .ok (c, outs)) : ∃ ns : List Int, ns.length ≤ n ∧ cs = [.f (.ro (ns.map .int))] ∧ c = .f (.bool true) ∧ outs = [] := by
  unfold lawS at h
  obtain ⟨⟨ns, h1, h2⟩, h⟩ := ite_ok h
  cases h
  exact ⟨ns, h1, h2, rfl, rfl⟩
open Classical in
theorem law_sp {n : Nat} (K : PySem.W.Frag) (H : Hp) (a : Addr) (ns : List Int) (hl : ns.length ≤ n) (hS : SqL K H a (ns.map V.int)) : spD K (lawS n) [.ref a] H (fun v _ => v = .bl true) fun _ _ _ => False := by
  refine ⟨H, [.f (.ro (ns.map .int))], .f (.bool true), [], [], Evl.Ex.refl _, .f (.ro hS (dnA_ints ns)) .nil, List.nodup_nil, ?_, fun v F' H' go nat _ => nat.fz.bool_inv⟩
  unfold lawS
  exact if_pos ⟨ns, hl, rfl⟩
end DL

namespace DL
open PySem L2 PyProof.Rows
section
variable {K : PySem.W.Frag} {F H : Hp}
/-! ### op= on frozen data -/
def iaddD : D → D → Rs Ce
  | .int i, .int j => .ok (.f (.int (i + j)))
  | .str a, .str b => if a.length + b.length ≤ sizeLine then .ok (.f (.str (a ++ b))) else .no
  | _, _ => .no
def rIAdd : R2 := fun x y H Q => rI0 (fun i j => .int (i + j)) x y H Q ∨ (∃ i j, x = .str i ∧ y = .str j ∧ i.length + j.length ≤ sizeLine ∧ Q (.str (i ++ j)) H)
theorem iop_addA {X : Cx} : OpR X (inplaceOp .Add) rIAdd := iop_add.or iop_add_str
theorem snd_iadd : Snd2 K rIAdd iaddD := fun F H x y dx dy c Q fh hx hy hg q => by
  cases dx <;> cases dy <;> first
    | (cases hg; done)
    | skip
  · rename_i i j
    cases hg
    rw [hx.int, hy.int]
    exact .inl ⟨i, j, rfl, rfl, ret1 fh (.int _) rfl q⟩
  · rename_i i j
    obtain ⟨h1, hg⟩ := ite_ok hg
    cases hg
    rw [hx.str, hy.str]
    exact .inr ⟨i, j, rfl, rfl, h1, ret1 fh (.str _) rfl q⟩
noncomputable def imulD : D → D → Rs Ce
  | .int i, .int j => if MulOk i j then .ok (.f (.int (i * j))) else .no
  | _, _ => .no
def rIMul : R2 := fun x y H Q => rI CMul (fun i j => .int (i * j)) x y H Q ∨ rI CMulW (fun i j => .int (i * j)) x y H Q
theorem iop_mulA {X : Cx} : OpR X (inplaceOp .Mult) rIMul := iop_mul.or (opI fun _ _ _ _ _ _ _ hc q => imul_int q hc.ok)
theorem snd_imul : Snd2 K rIMul imulD := fun F H x y dx dy c Q fh hx hy hg q => by
  cases dx <;> cases dy <;> first
    | (cases hg; done)
    | skip
  rename_i i j
  obtain ⟨h1, hg⟩ := ite_ok hg
  cases hg
  rw [hx.int, hy.int]
  rcases mulOk_r h1 with h | h
  · exact .inl ⟨i, j, rfl, rfl, h, ret1 fh (.int _) rfl q⟩
  · exact .inr ⟨i, j, rfl, rfl, h, ret1 fh (.int _) rfl q⟩
noncomputable def ifdivD : D → D → Rs Ce
  | .int i, .int j => if DivOk j then .ok (.f (.int (i / j))) else .no
  | _, _ => .no
theorem snd_ifdiv : Snd2 K (rI CDivW fun i j => .int (i / j)) ifdivD := fun F H x y dx dy c Q fh hx hy hg q => by
  cases dx <;> cases dy <;> first
    | (cases hg; done)
    | skip
  rename_i i j
  obtain ⟨h, hg⟩ := ite_ok hg
  cases hg
  rw [hx.int, hy.int]
  exact ⟨i, j, rfl, rfl, wide_div h.1 h.2 (by decide) (by decide), ret1 fh (.int _) rfl q⟩
end
end DL

namespace DL
open PySem L2 PyProof.Rows
/-! ### reckoning a meaning: simp rules -/
@[simp] theorem mN_r (m : M D) (e : En) : mN m e = (m e).bind fun p => .ok (.f p.1, p.2) := rfl
@[simp] theorem mZ_r (m : M Ce) (e : En) : mZ m e = (m e).bind fun p => .ok (p.1.d, p.2) := rfl
@[simp] theorem mH_r (m : M Ce) (e : En) : mH m e = (m e).bind fun p => .ok (.v p.1, p.2) := rfl
@[simp] theorem mVar_r (i : Nat) (e : En) : mVar i e = match e[i]? with
  | some (some (.f d)) => .ok (d, e)
  | _ => .no := rfl
@[simp] theorem mSl_r (i : Nat) (e : En) : mSl i e = match e[i]? with
  | some (some _) => .ok (.s i, e)
  | _ => .no := rfl
@[simp] theorem get_v (c : Ce) (e : En) : (Hd.v c).get e = .ok c.d := rfl
@[simp] theorem get_s (i : Nat) (e : En) : (Hd.s i).get e = match e[i]? with
  | some (some c) => .ok c.d
  | _ => .no := rfl
@[simp] theorem ce_d_f (d : D) : (Ce.f d).d = d := rfl
@[simp] theorem ce_d_l (p : Bool) (ds : List D) : (Ce.l p ds).d = .list ds := rfl
@[simp] theorem ce_d_k (p t : Bool) (ks vs : List D) : (Ce.k p t ks vs).d = .dict t ks vs := rfl
@[simp] theorem m2_r (g : D → D → Rs Ce) (ma mb : M Hd) (e : En) : m2 g ma mb e = (ma e).bind fun p => (mb p.2).bind fun q => (p.1.get q.2).bind fun x => (q.1.get q.2).bind fun y => (g x y).bind fun c => .ok (c, q.2) := rfl
@[simp] theorem m1_r (g : D → Rs Ce) (ma : M Hd) (e : En) : m1 g ma e = (ma e).bind fun p => (p.1.get p.2).bind fun x => (g x).bind fun c => .ok (c, p.2) := rfl
@[simp] theorem mL_r (g : List D → Rs Ce) (ma : M (List Hd)) (e : En) : mL g ma e = (ma e).bind fun p => (gets p.1 p.2).bind fun xs => (g xs).bind fun c => .ok (c, p.2) := rfl
@[simp] theorem gets_nil (e : En) : gets [] e = .ok [] := rfl
@[simp] theorem gets_cons (h : Hd) (hs : List Hd) (e : En) : gets (h :: hs) e = (h.get e).bind fun d => (gets hs e).bind fun ds => .ok (d :: ds) := rfl
@[simp] theorem aNil_r {α : Type} (e : En) : (aNil : M (List α)) e = .ok ([], e) := rfl
@[simp] theorem aCons_r {α : Type} (m : M α) (ms : M (List α)) (e : En) : aCons m ms e = (m e).bind fun p => (ms p.2).bind fun q => .ok (p.1 :: q.1, q.2) := rfl
@[simp] theorem mTup_r (ma : M (List D)) (e : En) : mTup ma e = (ma e).bind fun p => if p.1.length ≤ sizeLine then .ok (.tuple p.1, p.2) else .no := rfl
@[simp] theorem mLst_r (ma : M (List D)) (e : En) : mLst ma e = (ma e).bind fun p => if p.1.length ≤ sizeLine then .ok (.l false p.1, p.2) else .no := rfl
@[simp] theorem mIf_r {α : Type} (t : M Bool) (a b : M α) (e : En) : mIf t a b e = (t e).bind fun p => if p.1 = true then a p.2 else b p.2 := rfl
@[simp] theorem mAnd_r (a b : M Bool) (e : En) : mAnd a b e = (a e).bind fun p => if p.1 = true then b p.2 else .ok (false, p.2) := rfl
@[simp] theorem mOr_r (a b : M Bool) (e : En) : mOr a b e = (a e).bind fun p => if p.1 = true then .ok (true, p.2) else b p.2 := rfl
@[simp] theorem mNot_r (a : M Bool) (e : En) : mNot a e = (a e).bind fun p => .ok (!p.1, p.2) := rfl
@[simp] theorem mBool_r (m : M Ce) (e : En) : mBool m e = (m e).bind fun p => match p.1 with
  | .f (.bool b) => .ok (b, p.2)
  | _ => .no := rfl
@[simp] theorem mAndV_r (a b : M Ce) (e : En) : mAndV a b e = (a e).bind fun p => match p.1 with
  | .f (.bool true) => b p.2
  | .f (.bool false) => .ok (.f (.bool false), p.2)
  | _ => .no := rfl
@[simp] theorem mOrV_r (a b : M Ce) (e : En) : mOrV a b e = (a e).bind fun p => match p.1 with
  | .f (.bool true) => .ok (.f (.bool true), p.2)
  | .f (.bool false) => b p.2
  | _ => .no := rfl
@[simp] theorem mNotV_r (a : M Ce) (e : En) : mNotV a e = (a e).bind fun p => match p.1 with
  | .f (.bool b) => .ok (.bool (!b), p.2)
  | _ => .no := rfl
@[simp] theorem mTru_r (m : M Hd) (e : En) : mTru m e = (m e).bind fun p => (p.1.get p.2).bind fun d => d.truth.bind fun b => .ok (b, p.2) := rfl
@[simp] theorem mChain_r (g g' : D → D → Rs Ce) (ma mb mc : M Hd) (e : En) : mChain g g' ma mb mc e = (ma e).bind fun p => (mb p.2).bind fun q => (p.1.get q.2).bind fun x => (q.1.get q.2).bind fun y => (g x y).bind fun c => match c with
  | .f (.bool true) => (mc q.2).bind fun z => (q.1.get z.2).bind fun y' => (z.1.get z.2).bind fun w => (g' y' w).bind fun c' => .ok (c', z.2)
  | .f (.bool false) => .ok (.f (.bool false), q.2)
  | _ => .no := rfl
@[simp] theorem mIs_r (T : String) (m : M Hd) (e : En) : mIs T m e = (m e).bind fun p => (p.1.get p.2).bind fun d => .ok (.bool (isT T d), p.2) := rfl
@[simp] theorem mSeqA_r (m : M D) (e : En) : mSeqA m e = (m e).bind fun p => p.1.items.bind fun ds => .ok (ds, p.2) := rfl
@[simp] theorem items_l (ds : List D) : (D.list ds).items = .ok ds := rfl
@[simp] theorem items_r (ds : List D) : (D.ro ds).items = .ok ds := rfl
@[simp] theorem items_t (ds : List D) : (D.tuple ds).items = .ok ds := rfl
@[simp] theorem mRng1_r (ma : M (List D)) (e : En) : mRng1 ma e = (ma e).bind fun p => match p.1 with
  | [.int n] => if -(2 ^ 62) ≤ n ∧ n < 2 ^ 62 then .ok (rgD 0 n.toNat, p.2) else .no
  | _ => .no := rfl
@[simp] theorem mRng2_r (ma : M (List D)) (e : En) : mRng2 ma e = (ma e).bind fun p => match p.1 with
  | [.int lo, .int n] => if -(2 ^ 62) ≤ lo ∧ lo < 2 ^ 62 ∧ -(2 ^ 62) ≤ n ∧ n < 2 ^ 62 then .ok (rgD lo (n - lo).toNat, p.2) else .no
  | _ => .no := rfl
@[simp] theorem mJoin_r (ma mb : M Hd) (e : En) : mJoin ma mb e = (ma e).bind fun p => (p.1.get p.2).bind fun x => if isT "str" x = true then (mb p.2).bind fun q => (q.1.get q.2).bind fun y => (joinD x y).bind fun c => .ok (c, q.2) else .no := rfl
@[simp] theorem mDNew_r (t : Bool) (e : En) : mDNew t e = .ok (.k false t [] [], e) := rfl
theorem mComp_r (src : M (List D)) (t : Tg) (vs : List Nat) (c : M Bool) (m : M D) (e : En) : mComp src t vs c m e = (src e).bind fun p => (cLoop t vs c m p.1 [] p.2).bind fun q => .ok (.l false q.1, restE p.2 q.2 vs) := rfl
@[simp] theorem mYes_r (e : En) : mYes e = .ok (true, e) := rfl
@[simp] theorem aD_r (m : M D) (e : En) : aD m e = (m e).bind fun p => .ok (.d p.1, p.2) := rfl
@[simp] theorem aS_r (i : Nat) (e : En) : aS i e = match e[i]? with
  | some (some c) => if c.ow = true then .ok (.s i, e) else .no
  | _ => .no := rfl
@[simp] theorem agCells_nil (e : En) : agCells [] e = .ok [] := rfl
@[simp] theorem agCells_d (d : D) (as : List Ag) (e : En) : agCells (.d d :: as) e = (agCells as e).bind fun cs => .ok (.f d :: cs) := rfl
@[simp] theorem agCells_s (i : Nat) (as : List Ag) (e : En) : agCells (.s i :: as) e = match e[i]? with
    | some (some c) => (agCells as e).bind fun cs => .ok (c.lent :: cs)
    | _ => .no := rfl
@[simp] theorem agSlots_nil : agSlots [] = [] := rfl
@[simp] theorem agSlots_d (d : D) (as : List Ag) : agSlots (.d d :: as) = agSlots as := rfl
@[simp] theorem agSlots_s (i : Nat) (as : List Ag) : agSlots (.s i :: as) = i :: agSlots as := rfl
@[simp] theorem putBack_nil (e : En) : putBack [] [] e = .ok e := rfl
@[simp] theorem putBack_l (i : Nat) (is : List Nat) (p : Bool) (ds : List D) (cs : List Ce) (e : En) : putBack (i :: is) (.l p ds :: cs) e = match e[i]? with
    | some (some (.l p' _)) => putBack is cs (e.set i (some (.l p' ds)))
    | _ => .no := by
  show (match e[i]?, Ce.l p ds with
    | some (some (.l p _)), .l _ ds => putBack is cs (e.set i (some (.l p ds)))
    | some (some (.k p t _ _)), .k _ t' ks vs => if t = t' then putBack is cs (e.set i (some (.k p t' ks vs))) else .no
    | _, _ => .no) = _
  cases e[i]? with
  | none => rfl
  | some o => cases o with
    | none => rfl
    | some c => cases c <;> rfl
@[simp] theorem mCall_r (S : Sf) (ma : M (List Ag)) (e : En) : mCall S ma e = (ma e).bind fun p => (agCells p.1 p.2).bind fun cs => if (agSlots p.1).Nodup then (S cs).bind fun r => (putBack (agSlots p.1) r.2 p.2).bind fun e' => .ok (r.1, e') else .no := rfl
@[simp] theorem lent_f (d : D) : (Ce.f d).lent = .f d := rfl
@[simp] theorem lent_l (p : Bool) (ds : List D) : (Ce.l p ds).lent = .l true ds := rfl
@[simp] theorem ow_f (d : D) : (Ce.f d).ow = false := rfl
@[simp] theorem ow_l (p : Bool) (ds : List D) : (Ce.l p ds).ow = true := rfl
@[simp] theorem ow_k (p t : Bool) (ks vs : List D) : (Ce.k p t ks vs).ow = true := rfl
@[simp] theorem io_f (d : D) : (Ce.f d).io = false := rfl
@[simp] theorem io_l (p : Bool) (ds : List D) : (Ce.l p ds).io = p := rfl
@[simp] theorem io_k (p t : Bool) (ks vs : List D) : (Ce.k p t ks vs).io = p := rfl
@[simp] theorem ioAt_nil (i : Nat) : ioAt [] i = false := rfl
@[simp] theorem ioAt_z (c : Ce) (e : En) : ioAt (some c :: e) 0 = c.io := rfl
@[simp] theorem ioAt_n (e : En) : ioAt (none :: e) 0 = false := rfl
@[simp] theorem ioAt_m (a : Option D) (e : En) : ioAt (a.map Ce.f :: e) 0 = false := by cases a <;> rfl
@[simp] theorem ioAt_s (o : Option Ce) (e : En) (i : Nat) : ioAt (o :: e) (i + 1) = ioAt e i := rfl
@[simp] theorem frozenAt_nil (i : Nat) : frozenAt [] i = true := rfl
@[simp] theorem frozenAt_z (c : Ce) (e : En) : frozenAt (some c :: e) 0 = !c.ow := rfl
@[simp] theorem frozenAt_n (e : En) : frozenAt (none :: e) 0 = true := rfl
@[simp] theorem frozenAt_m (a : Option D) (e : En) : frozenAt (a.map Ce.f :: e) 0 = true := by cases a <;> rfl
@[simp] theorem frozenAt_s (o : Option Ce) (e : En) (i : Nat) : frozenAt (o :: e) (i + 1) = frozenAt e i := rfl
theorem ioAt_r (e : En) (i : Nat) : ioAt e i = match e[i]? with
  | some (some c) => c.io
  | _ => false := rfl
theorem frozenAt_r (e : En) (i : Nat) : frozenAt e i = match e[i]? with
  | some (some c) => !c.ow
  | _ => true := rfl
/-! statements -/
@[simp] theorem sAsg_r (i : Nat) (m : M Ce) (e : En) : sAsg i m e = onR (m e) fun c e' => if ioAt e' i = true then .no else .nx (e'.set i (some c)) := rfl
@[simp] theorem sAsgF_r (i : Nat) (m : M D) (e : En) : sAsgF i m e = onR (m e) fun d e' => if ioAt e' i = true then .no else .nx (e'.set i (some (.f d))) := rfl
@[simp] theorem sSeq_r (a b : En → Out) (e : En) : sSeq a b e = match a e with
  | .nx e' => b e'
  | o => o := rfl
@[simp] theorem sNext_r (e : En) : sNext e = .nx e := rfl
@[simp] theorem sBreak_r (e : En) : sBreak e = .bk e := rfl
@[simp] theorem sCont_r (e : En) : sCont e = .ct e := rfl
@[simp] theorem sFrz_r (i : Nat) (b : En → Out) (e : En) : sFrz i b e = match e[i]? with
  | some (some c) => if c.io = true then .no else b (e.set i (some (.f c.d)))
  | _ => .no := rfl
@[simp] theorem sDrop_r {α : Type} (m : M α) (e : En) : sDrop m e = onR (m e) fun _ e' => .nx e' := rfl
@[simp] theorem sRet_r (m : M Ce) (e : En) : sRet m e = onR (m e) fun c e' => .rt c e' := rfl
@[simp] theorem sRetN_r (e : En) : sRetN e = .rt (.f .none) e := rfl
@[simp] theorem sRetS_r (i : Nat) (e : En) : sRetS i e = match e[i]? with
  | some (some c) => if c.io = true then .no else .rt c e
  | _ => .no := rfl
@[simp] theorem sIf_r (t : M Bool) (a b : En → Out) (e : En) : sIf t a b e = onR (t e) fun c e' => if c = true then a e' else b e' := rfl
@[simp] theorem sApp_r (i : Nat) (m : M D) (e : En) : sApp i m e = match e[i]? with
  | some (some (.l _ _)) => onR (m e) fun d e' => (match e'[i]? with
    | some (some (.l p ds)) => if ds.length < 16000000 then .nx (e'.set i (some (.l p (ds ++ [d])))) else .no
    | _ => .no)
  | _ => .no := rfl
@[simp] theorem sTgt_r (t : Tg) (m : M D) (e : En) : sTgt t m e = onR (m e) fun d e' => match t d e' with
  | .ok e2 => .nx e2
  | _ => .no := rfl
@[simp] theorem tgN_r (i : Nat) (d : D) (e : En) : tgN i d e = if ioAt e i = true then .no else .ok (e.set i (some (.f d))) := rfl
@[simp] theorem tgT_r (ts : List Tg) (ds : List D) (e : En) : tgT ts (.tuple ds) e = tgAll ts ds e := rfl
@[simp] theorem tgAll_nil (e : En) : tgAll [] [] e = .ok e := rfl
@[simp] theorem tgAll_cons (t : Tg) (ts : List Tg) (d : D) (ds : List D) (e : En) : tgAll (t :: ts) (d :: ds) e = (t d e).bind (tgAll ts ds) := rfl
@[simp] theorem sParN_r (i j : Nat) (ma mb : M Ce) (e : En) : sParN i j ma mb e = onR (ma e) fun c1 e1 => onR (mb e1) fun c2 e2 => if (ioAt e2 i || ioAt e2 j) = true then .no else .nx ((e2.set i (some c1)).set j (some c2)) := rfl
@[simp] theorem sAug_r (g : D → D → Rs Ce) (i : Nat) (m : M D) (e : En) : sAug g i m e = match e[i]? with
  | some (some (.f dx)) => onR (m e) fun d e' => (match g dx d with
    | .ok (.f dz) => .nx (e'.set i (some (.f dz)))
    | _ => .no)
  | _ => .no := rfl
@[simp] theorem sFor_r (m : M (List D)) (t : Tg) (b : En → Out) (e : En) : sFor m t b e = onR (m e) fun ds e' => loopL t b ds e' := rfl
@[simp] theorem loopL_nil (t : Tg) (b : En → Out) (e : En) : loopL t b [] e = .nx e := rfl
theorem loopL_cons (t : Tg) (b : En → Out) (d : D) (ds : List D) (e : En) : loopL t b (d :: ds) e = match t d e with
    | .ok e1 => (match b e1 with
      | .nx e2 => loopL t b ds e2
      | .ct e2 => loopL t b ds e2
      | .bk e2 => .nx e2
      | o => o)
    | _ => .no := rfl
@[simp] theorem sDPut_r (i : Nat) (mk mv : M D) (e : En) : sDPut i mk mv e = onR (mv e) fun v e1 => match e1[i]? with
  | some (some (.k _ _ _ _)) => onR (mk e1) fun k e2 => (match e2[i]? with
    | some (some (.k p t ks vs)) => if (keyOk t k = true ∧ ks.length < 16000000) then .nx (e2.set i (some (.k p t (dPutK ks k) (dPutW ks vs k v)))) else .no
    | _ => .no)
  | _ => .no := rfl
@[simp] theorem sLPut_r (i : Nat) (mj mv : M D) (e : En) : sLPut i mj mv e = onR (mv e) fun v e1 => match e1[i]? with
  | some (some (.l _ _)) => onR (mj e1) fun k e2 => (match e2[i]?, k with
    | some (some (.l p ds)), .int j => (match ixN ds.length j with
      | some jj => .nx (e2.set i (some (.l p (ds.set jj v))))
      | none => .no)
    | _, _ => .no)
  | _ => .no := rfl
theorem runD_r (n : Nat) (m : En → Out) (cs : List Ce) : runD n m cs = match m (startE n cs) with
  | .rt c e => (outsAt (owIx 0 cs) e).bind fun os => .ok (c, os)
  | .nx e => (outsAt (owIx 0 cs) e).bind fun os => .ok (.f .none, os)
  | .ex n ds => .ex n ds
  | _ => .no := rfl
@[simp] theorem owIx_nil (n : Nat) : owIx n [] = [] := rfl
@[simp] theorem owIx_f (n : Nat) (d : D) (cs : List Ce) : owIx n (.f d :: cs) = owIx (n + 1) cs := rfl
@[simp] theorem owIx_l (n : Nat) (p : Bool) (ds : List D) (cs : List Ce) : owIx n (.l p ds :: cs) = n :: owIx (n + 1) cs := rfl
@[simp] theorem outsAt_nil (e : En) : outsAt [] e = .ok [] := rfl
@[simp] theorem outsAt_cons (i : Nat) (is : List Nat) (e : En) : outsAt (i :: is) e = match e[i]? with
    | some (some c) => if c.io = true then (outsAt is e).bind fun cs => .ok (c :: cs) else .no
    | _ => .no := rfl
/-! operations -/
@[simp] theorem addD_i (i j : Int) : addD (.int i) (.int j) = .ok (.f (.int (i + j))) := rfl
@[simp] theorem subD_i (i j : Int) : subD (.int i) (.int j) = .ok (.f (.int (i - j))) := rfl
theorem mulD_i {i j : Int} (h : MulOk i j) : mulD (.int i) (.int j) = .ok (.f (.int (i * j))) := if_pos h
theorem imulD_i {i j : Int} (h : MulOk i j) : imulD (.int i) (.int j) = .ok (.f (.int (i * j))) := if_pos h
theorem fdivD_i {i j : Int} (h : DivOk j) : fdivD (.int i) (.int j) = .ok (.f (.int (i / j))) := if_pos h
theorem ifdivD_i {i j : Int} (h : DivOk j) : ifdivD (.int i) (.int j) = .ok (.f (.int (i / j))) := if_pos h
theorem modD_i {i j : Int} (h : 0 < j) : modD (.int i) (.int j) = .ok (.f (.int (i % j))) := if_pos h
@[simp] theorem iaddD_i (i j : Int) : iaddD (.int i) (.int j) = .ok (.f (.int (i + j))) := rfl
@[simp] theorem negD_i (i : Int) : negD (.int i) = .ok (.f (.int (-i))) := rfl
@[simp] theorem ltD_i (i j : Int) : ltD (.int i) (.int j) = .ok (.f (.bool (decide (i < j)))) := rfl
@[simp] theorem leD_i (i j : Int) : leD (.int i) (.int j) = .ok (.f (.bool (decide (i ≤ j)))) := rfl
@[simp] theorem gtD_i (i j : Int) : gtD (.int i) (.int j) = .ok (.f (.bool (decide (j < i)))) := rfl
@[simp] theorem geD_i (i j : Int) : geD (.int i) (.int j) = .ok (.f (.bool (decide (j ≤ i)))) := rfl
@[simp] theorem eqD_i (i j : Int) : eqD (.int i) (.int j) = .ok (.f (.bool (i == j))) := by simp [eqD, D.sc, D.eqb]
@[simp] theorem neD_i (i j : Int) : neD (.int i) (.int j) = .ok (.f (.bool (!(i == j)))) := by simp [neD, D.sc, D.eqb]
@[simp] theorem eqD_s (i j : Str) : eqD (.str i) (.str j) = .ok (.f (.bool (i == j))) := by simp [eqD, D.sc, D.eqb]
@[simp] theorem neD_s (i j : Str) : neD (.str i) (.str j) = .ok (.f (.bool (!(i == j)))) := by simp [neD, D.sc, D.eqb]
@[simp] theorem isD_n (x : D) : isD x .none = .ok (.f (.bool x.isN)) := rfl
@[simp] theorem isD_b (x : D) (b : Bool) : isD x (.bool b) = .ok (.f (.bool (x.isB b))) := rfl
@[simp] theorem isntD_n (x : D) : isntD x .none = .ok (.f (.bool (!x.isN))) := rfl
@[simp] theorem intD_i (i : Int) : intD [.int i] = .ok (.f (.int i)) := rfl
@[simp] theorem absD_i (i : Int) : absD [.int i] = .ok (.f (.int (if i < 0 then -i else i))) := rfl
@[simp] theorem gcdD_i (a b : Int) : gcdD [.int a, .int b] = .ok (.f (.int ((Nat.gcd a.natAbs b.natAbs : Nat) : Int))) := rfl
theorem lcmD_i {a b : Int} (h : a.natAbs < 2 ^ 64 ∧ b.natAbs < 2 ^ 64) : lcmD [.int a, .int b] = .ok (.f (.int ((Nat.lcm a.natAbs b.natAbs : Nat) : Int))) := if_pos h
@[simp] theorem lenD_l (ds : List D) : lenD [.list ds] = .ok (.f (.int ds.length)) := rfl
@[simp] theorem lenD_ro (ds : List D) : lenD [.ro ds] = .ok (.f (.int ds.length)) := rfl
@[simp] theorem lenD_t (ds : List D) : lenD [.tuple ds] = .ok (.f (.int ds.length)) := rfl
@[simp] theorem lenD_d (t : Bool) (ks vs : List D) : lenD [.dict t ks vs] = .ok (.f (.int ks.length)) := rfl
@[simp] theorem tupleD_l (ds : List D) : tupleD [.list ds] = .ok (.f (.tuple ds)) := rfl
@[simp] theorem tupleD_t (ds : List D) : tupleD [.tuple ds] = .ok (.f (.tuple ds)) := rfl
@[simp] theorem listD_l (ds : List D) : listD [.list ds] = .ok (.l false ds) := rfl
@[simp] theorem listD_t (ds : List D) : listD [.tuple ds] = .ok (.l false ds) := rfl
theorem ixD_t (ds : List D) (i : Int) : ixD (.tuple ds) (.int i) = match atI ds i with
    | some d => .ok (.f d)
    | _ => .no := rfl
theorem ixD_l (ds : List D) (i : Int) : ixD (.list ds) (.int i) = match atI ds i with
    | some d => .ok (.f d)
    | _ => .no := rfl
theorem ixD_ro (ds : List D) (i : Int) : ixD (.ro ds) (.int i) = match atI ds i with
    | some d => .ok (.f d)
    | _ => .no := rfl
@[simp] theorem ixD_t0 (d : D) (ds : List D) : ixD (.tuple (d :: ds)) (.int 0) = .ok (.f d) := by
  rw [ixD_t, show atI (d :: ds) 0 = some d from atI_nat (j := 0) rfl]
@[simp] theorem ixD_t1 (d d1 : D) (ds : List D) : ixD (.tuple (d :: d1 :: ds)) (.int 1) = .ok (.f d1) := by
  rw [ixD_t, show atI (d :: d1 :: ds) 1 = some d1 from atI_nat (j := 1) rfl]
@[simp] theorem ixD_t2 (d d1 d2 : D) (ds : List D) : ixD (.tuple (d :: d1 :: d2 :: ds)) (.int 2) = .ok (.f d2) := by
  rw [ixD_t, show atI (d :: d1 :: d2 :: ds) 2 = some d2 from atI_nat (j := 2) rfl]
@[simp] theorem ixD_t3 (d d1 d2 d3 : D) (ds : List D) : ixD (.tuple (d :: d1 :: d2 :: d3 :: ds)) (.int 3) = .ok (.f d3) := by
  rw [ixD_t, show atI (d :: d1 :: d2 :: d3 :: ds) 3 = some d3 from atI_nat (j := 3) rfl]
@[simp] theorem ixD_t4 (d d1 d2 d3 d4 : D) (ds : List D) : ixD (.tuple (d :: d1 :: d2 :: d3 :: d4 :: ds)) (.int 4) = .ok (.f d4) := by
  rw [ixD_t, show atI (d :: d1 :: d2 :: d3 :: d4 :: ds) 4 = some d4 from atI_nat (j := 4) rfl]
@[simp] theorem ixD_l0 (d : D) (ds : List D) : ixD (.list (d :: ds)) (.int 0) = .ok (.f d) := by
  rw [ixD_l, show atI (d :: ds) 0 = some d from atI_nat (j := 0) rfl]
@[simp] theorem ixD_l1 (d d1 : D) (ds : List D) : ixD (.list (d :: d1 :: ds)) (.int 1) = .ok (.f d1) := by
  rw [ixD_l, show atI (d :: d1 :: ds) 1 = some d1 from atI_nat (j := 1) rfl]
theorem ixD_tn {ds : List D} {n : Nat} {d : D} (h : ds[n]? = some d) : ixD (.tuple ds) (.int (n : Int)) = .ok (.f d) := by rw [ixD_t, atI_nat h]
theorem ixD_ln {ds : List D} {n : Nat} {d : D} (h : ds[n]? = some d) : ixD (.list ds) (.int (n : Int)) = .ok (.f d) := by rw [ixD_l, atI_nat h]
theorem ixD_rn {ds : List D} {n : Nat} {d : D} (h : ds[n]? = some d) : ixD (.ro ds) (.int (n : Int)) = .ok (.f d) := by rw [ixD_ro, atI_nat h]
@[simp] theorem ixN_0 (n : Nat) : ixN (n + 1) 0 = some 0 := by simp [ixN]
@[simp] theorem ixN_1 (n : Nat) : ixN (n + 1 + 1) 1 = some 1 := by
  unfold ixN
  rw [if_pos (by decide), if_pos (by omega)]
  rfl
@[simp] theorem sizeLine_ge (n : Nat) (h : n ≤ 1000 := by decide) : n ≤ sizeLine := Nat.le_trans h (by rw [sizeLine_eq]; decide)
@[simp] theorem isN_none : D.none.isN = true := rfl
@[simp] theorem isN_b (b : Bool) : (D.bool b).isN = false := rfl
@[simp] theorem isN_i (i : Int) : (D.int i).isN = false := rfl
@[simp] theorem isN_s (s : Str) : (D.str s).isN = false := rfl
@[simp] theorem isN_t (ds : List D) : (D.tuple ds).isN = false := rfl
@[simp] theorem isN_l (ds : List D) : (D.list ds).isN = false := rfl
@[simp] theorem isB_n (b : Bool) : D.none.isB b = false := rfl
@[simp] theorem isB_b (b c : Bool) : (D.bool c).isB b = (c == b) := rfl
@[simp] theorem isB_i (b : Bool) (i : Int) : (D.int i).isB b = false := rfl
@[simp] theorem isB_s (b : Bool) (s : Str) : (D.str s).isB b = false := rfl
@[simp] theorem isB_t (b : Bool) (ds : List D) : (D.tuple ds).isB b = false := rfl
@[simp] theorem truth_b (b : Bool) : (D.bool b).truth = .ok b := rfl
@[simp] theorem truth_n : D.none.truth = .ok false := rfl
@[simp] theorem truth_i (i : Int) : (D.int i).truth = .ok (i != 0) := rfl
@[simp] theorem truth_l (ds : List D) : (D.list ds).truth = .ok (!ds.isEmpty) := rfl
@[simp] theorem truth_t (ds : List D) : (D.tuple ds).truth = .ok (!ds.isEmpty) := rfl
theorem mulOk_l {i j : Int} (h : -(2 ^ 64) < i) (h2 : i < 2 ^ 64) : MulOk i j := .inl ⟨h, h2⟩
theorem mulOk_r' {i j : Int} (h : -(2 ^ 64) < j) (h2 : j < 2 ^ 64) : MulOk i j := .inr (.inl ⟨h, h2⟩)
theorem pow_mono2 {a b : Nat} (h : a ≤ b) : 2 ^ a ≤ 2 ^ b := Nat.pow_le_pow_right (by decide) h
theorem divOk_of {j : Int} {n : Nat} (h : 0 < j) (h2 : j < 2 ^ n) (hn : n ≤ 8000) : DivOk j := by
  refine ⟨h, ?_⟩
  have h3 : j.natAbs < 2 ^ n := by
    have h4 : ((j.natAbs : Nat) : Int) = j := Int.natAbs_of_nonneg (by omega)
    have h5 : ((j.natAbs : Nat) : Int) < ((2 ^ n : Nat) : Int) := by
      rw [h4, Int.natCast_pow]
      exact h2
    exact Int.ofNat_lt.mp h5
  exact Nat.lt_of_lt_of_le h3 (pow_mono2 hn)
end DL

namespace DL
open PySem L2 PyProof.Rows
/-! ### promises by a domain -/
open Classical in
/-- f's answers on the arguments enc x, for the x that P lets in -/
noncomputable def spec {α : Type} (Pr : α → Prop) (enc : α → List Ce) (res : α → Ce × List Ce) : Sf := fun cs => if h : ∃ x, Pr x ∧ cs = enc x then .ok (res h.choose) else .no
open Classical in
theorem spec_inv {α : Type} {Pr : α → Prop} {enc : α → List Ce} {res : α → Ce × List Ce} {cs : List Ce} {r : Ce × List Ce} (h : spec Pr enc res cs = .ok r) : ∃ x, Pr x ∧ cs = enc x ∧ r = res x := by
  unfold spec at h
  by_cases hx : ∃ x, Pr x ∧ cs = enc x
  · rw [dif_pos hx] at h
    exact ⟨hx.choose, hx.choose_spec.1, hx.choose_spec.2, (Rs.ok.inj h).symm⟩
  · rw [dif_neg hx] at h
    cases h
open Classical in
theorem spec_ok {α : Type} {Pr : α → Prop} {enc : α → List Ce} {res : α → Ce × List Ce} {x : α} {cs : List Ce} (he : cs = enc x) (hx : Pr x) (inj : ∀ y, Pr y → enc x = enc y → res y = res x) : spec Pr enc res cs = .ok (res x) := by
  subst he
  unfold spec
  have h : ∃ y, Pr y ∧ enc x = enc y := ⟨x, hx, rfl⟩
  rw [dif_pos h]
  rw [inj h.choose h.choose_spec.1 h.choose_spec.2]
open Classical in
/-- f's answers are what its body m gives, on the arguments of Dm -/
noncomputable def specR (Dm : List Ce → Prop) (n : Nat) (m : En → Out) : Sf := fun cs => if Dm cs then runD n m cs else .no
open Classical in
theorem specR_inv {Dm : List Ce → Prop} {n : Nat} {m : En → Out} {cs : List Ce} {r : Ce × List Ce} (h : specR Dm n m cs = .ok r) : Dm cs ∧ runD n m cs = .ok r := ite_ok h
open Classical in
theorem specR_ok {Dm : List Ce → Prop} {n : Nat} {m : En → Out} {cs : List Ce} (h : Dm cs) : specR Dm n m cs = runD n m cs := if_pos h
theorem specR_sem {Dm : List Ce → Prop} {n l : Nat} {m : En → Out} (hl : ∀ cs, Dm cs → cs.length = l) : ∀ cs c outs, specR Dm n m cs = .ok (c, outs) → cs.length = l ∧ runD n m cs = .ok (c, outs) := fun cs c outs h =>
  ⟨hl cs (specR_inv h).1, (specR_inv h).2⟩
theorem map_int_inj {a b : List Int} (h : a.map D.int = b.map D.int) : a = b := by
  have : Function.Injective D.int := fun x y e => by cases e; rfl
  exact (List.map_inj_right (fun x y e => this e)).mp h
/-! ### loops by an invariant -/
/-- I: what holds ahead of each turn, by what is left; Fi: behind the loop; Re: of what is handed back within it -/
theorem loopL_inv {t : Tg} {b : En → Out} (I : List D → En → Prop) (Fi : En → Prop) (Re : Ce → En → Prop)
    (step : ∀ d ds e, I (d :: ds) e → ∃ e1, t d e = .ok e1 ∧ ((∃ e2, (b e1 = .nx e2 ∨ b e1 = .ct e2) ∧ I ds e2) ∨ (∃ e2, b e1 = .bk e2 ∧ Fi e2) ∨ ∃ c e2, b e1 = .rt c e2 ∧ Re c e2))
    (fin : ∀ e, I [] e → Fi e) : ∀ (ds : List D) (e : En), I ds e → (∃ e', loopL t b ds e = .nx e' ∧ Fi e') ∨ ∃ c e', loopL t b ds e = .rt c e' ∧ Re c e'
  | [], e, h => .inl ⟨e, rfl, fin e h⟩
  | d :: ds, e, h => by
    obtain ⟨e1, h1, h2⟩ := step d ds e h
    rw [loopL_cons, h1]
    rcases h2 with ⟨e2, h3 | h3, h4⟩ | ⟨e2, h3, h4⟩ | ⟨c, e2, h3, h4⟩
    · simp only [h3]
      exact loopL_inv I Fi Re step fin ds e2 h4
    · simp only [h3]
      exact loopL_inv I Fi Re step fin ds e2 h4
    · simp only [h3]
      exact .inl ⟨e2, rfl, h4⟩
    · simp only [h3]
      exact .inr ⟨c, e2, rfl, h4⟩
/-- .. a loop that nothing leaves -/
theorem loopL_nx {t : Tg} {b : En → Out} (I : List D → En → Prop)
    (step : ∀ d ds e, I (d :: ds) e → ∃ e1 e2, t d e = .ok e1 ∧ b e1 = .nx e2 ∧ I ds e2) : ∀ (ds : List D) (e : En), I ds e → ∃ e', loopL t b ds e = .nx e' ∧ I [] e'
  | [], e, h => ⟨e, rfl, h⟩
  | d :: ds, e, h => by
    obtain ⟨e1, e2, h1, h2, h3⟩ := step d ds e h
    rw [loopL_cons, h1]
    simp only [h2]
    exact loopL_nx I step ds e2 h3
/-- a loop as a fold: S tells the environment by a state -/
theorem loopL_fold {α σ : Type} {t : Tg} {b : En → Out} (enc : α → D) (S : σ → En → Prop) (f : σ → α → σ) (P : σ → List α → Prop)
    (step : ∀ x xs s e, P s (x :: xs) → S s e → ∃ e1 e2, t (enc x) e = .ok e1 ∧ b e1 = .nx e2 ∧ S (f s x) e2 ∧ P (f s x) xs) : ∀ (xs : List α) (s : σ) (e : En), P s xs → S s e → ∃ e', loopL t b (xs.map enc) e = .nx e' ∧ S (xs.foldl f s) e' ∧ P (xs.foldl f s) []
  | [], s, e, hp, hs => ⟨e, rfl, hs, hp⟩
  | x :: xs, s, e, hp, hs => by
    obtain ⟨e1, e2, h1, h2, h3, h4⟩ := step x xs s e hp hs
    rw [List.map_cons, loopL_cons, h1]
    simp only [h2]
    exact loopL_fold enc S f P step xs (f s x) e2 h4 h3
theorem rgD_map (lo : Int) : ∀ n : Nat, rgD lo n = (List.range n).map fun (i : Nat) => D.int (lo + (i : Int))
  | 0 => rfl
  | n + 1 => by
    rw [rgD, rgD_map (lo + 1) n, List.range_succ_eq_map, List.map_cons, List.map_map]
    congr 1
    · simp
    · apply List.map_congr_left
      intro i _
      simp only [Function.comp]
      congr 1
      omega
/-- while, by a measure -/
theorem while_inv {t : M Bool} {b : En → Out} (I : Nat → En → Prop) (Fi : En → Prop) (Re : Ce → En → Prop)
    (step : ∀ n e, I n e → ∃ k e1, t e = .ok (k, e1) ∧ (k = false → Fi e1) ∧ (k = true → (∃ e2 m, (b e1 = .nx e2 ∨ b e1 = .ct e2) ∧ m < n ∧ I m e2) ∨ (∃ e2, b e1 = .bk e2 ∧ Fi e2) ∨ ∃ c e2, b e1 = .rt c e2 ∧ Re c e2)) :
    ∀ (n : Nat) (e : En), I n e → (∃ e', sWhile t b e = .nx e' ∧ Fi e') ∨ ∃ c e', sWhile t b e = .rt c e' ∧ Re c e' := by
  intro n
  induction n using Nat.strongRecOn with
  | ind n ih =>
    intro e h
    obtain ⟨k, e1, h1, h2, h3⟩ := step n e h
    rw [sWhile_eq, h1]
    cases k with
    | false => exact .inl ⟨e1, rfl, h2 rfl⟩
    | true =>
      simp only
      rcases h3 rfl with ⟨e2, m, h4 | h4, h5, h6⟩ | ⟨e2, h4, h5⟩ | ⟨c, e2, h4, h5⟩
      · simp only [h4]
        exact ih m h5 e2 h6
      · simp only [h4]
        exact ih m h5 e2 h6
      · simp only [h4]
        exact .inl ⟨e2, rfl, h5⟩
      · simp only [h4]
        exact .inr ⟨c, e2, rfl, h5⟩
/-! ### comprehensions -/
theorem wipeE_idem {e e1 : En} {vs is : List Nat} {t : Tg} {d : D} (to : TgOk t is) (hs : ∀ i ∈ is, i ∈ vs) (h : t d (wipeE e vs) = .ok e1) : wipeE e1 vs = wipeE e vs := by
  apply List.ext_getElem?
  intro j
  have hl : e1.length = e.length := by rw [to.ln _ _ _ h, wipeE_len]
  rw [wipeE_get, wipeE_get]
  by_cases hv : j ∈ vs
  · rw [if_pos hv, if_pos hv]
    by_cases hj : j < e.length
    · rw [List.getElem?_eq_getElem hj, List.getElem?_eq_getElem (by omega)]; rfl
    · rw [List.getElem?_eq_none (Nat.le_of_not_lt hj), List.getElem?_eq_none (by omega)]
  · rw [if_neg hv, if_neg hv, to.ne _ _ _ h j (fun z => hv (hs j z)), wipeE_get, if_neg hv]
theorem tg_fr {e e1 : En} {vs is : List Nat} {t : Tg} {d : D} (to : TgOk t is) (h : t d (wipeE e vs) = .ok e1) : vs.all (frozenAt e1) = true := by
  rw [List.all_eq_true]
  intro j hj
  refine to.fz _ _ _ h j (.inr ?_)
  unfold frozenAt
  rw [wipeE_get, if_pos hj]
  cases e[j]? <;> rfl
theorem restE_same {e e' : En} {vs : List Nat} (h : wipeE e' vs = wipeE e vs) : restE e e' vs = e := by
  have hl : e'.length = e.length := by
    have := congrArg List.length h
    rwa [wipeE_len, wipeE_len] at this
  apply List.ext_getElem?
  intro j
  rw [restE_get e e' hl]
  by_cases hv : j ∈ vs
  · rw [if_pos hv]
  · rw [if_neg hv]
    have := congrArg (fun l => l[j]?) h
    simp only [wipeE_get, if_neg hv] at this
    exact this
theorem cLoop_pure {t : Tg} {vs is : List Nat} {c : M Bool} {m : M D} (to : TgOk t is) (hs : ∀ i ∈ is, i ∈ vs) (f : D → Option D) (e0 : En) : ∀ (ds acc : List D) (e : En), vs.all (frozenAt e) = true → wipeE e vs = wipeE e0 vs → acc.length + ds.length < 16000000 →
    (∀ d ∈ ds, ∃ e1, t d (wipeE e0 vs) = .ok e1 ∧ c e1 = .ok ((f d).isSome, e1) ∧ ∀ x, f d = some x → m e1 = .ok (x, e1)) → ∃ e', cLoop t vs c m ds acc e = .ok (acc ++ ds.filterMap f, e') ∧ wipeE e' vs = wipeE e0 vs
  | [], acc, e, hf, hw, _, _ => ⟨e, by unfold cLoop; rw [if_pos hf]; simp, hw⟩
  | d :: ds, acc, e, hf, hw, hz, h => by
    obtain ⟨e1, h1, h2, h3⟩ := h d List.mem_cons_self
    have hw1 := wipeE_idem to hs h1
    have hf1 := tg_fr to h1
    unfold cLoop
    rw [if_pos hf, hw, h1]
    simp only [Rs.bind_ok, h2]
    cases q : f d with
    | none =>
      simp only [Option.isSome_none, Bool.false_eq_true, if_false]
      obtain ⟨e', g1, g2⟩ := cLoop_pure to hs f e0 ds acc e1 hf1 hw1 (by simp at hz; omega) fun d hd => h d (List.mem_cons_of_mem _ hd)
      exact ⟨e', by rw [g1, List.filterMap_cons_none q], g2⟩
    | some x =>
      simp only [Option.isSome_some, if_true]
      rw [h3 x q]
      simp only [Rs.bind_ok]
      rw [if_pos (show acc.length < 16000000 by omega)]
      obtain ⟨e', g1, g2⟩ := cLoop_pure to hs f e0 ds (acc ++ [x]) e1 hf1 hw1 (by simp at hz ⊢; omega) fun d hd => h d (List.mem_cons_of_mem _ hd)
      exact ⟨e', by rw [g1, List.filterMap_cons_some q]; simp, g2⟩
/-- a comprehension that changes nothing -/
theorem mComp_pure {src : M (List D)} {t : Tg} {vs is : List Nat} {c : M Bool} {m : M D} {e : En} {ds : List D} (f : D → Option D) (hsrc : src e = .ok (ds, e)) (to : TgOk t is) (hs : ∀ i ∈ is, i ∈ vs) (hf : vs.all (frozenAt e) = true) (hz : ds.length < 16000000)
    (h : ∀ d ∈ ds, ∃ e1, t d (wipeE e vs) = .ok e1 ∧ c e1 = .ok ((f d).isSome, e1) ∧ ∀ x, f d = some x → m e1 = .ok (x, e1)) : mComp src t vs c m e = .ok (.l false (ds.filterMap f), e) := by
  obtain ⟨e', h1, h2⟩ := cLoop_pure to hs f e ds [] e hf rfl (by simpa using hz) h
  rw [mComp_r, hsrc]
  simp only [Rs.bind_ok, h1, List.nil_append]
  rw [restE_same h2]
/-- .. without a test -/
theorem mComp_map {src : M (List D)} {t : Tg} {vs is : List Nat} {m : M D} {e : En} {ds : List D} (f : D → D) (hsrc : src e = .ok (ds, e)) (to : TgOk t is) (hs : ∀ i ∈ is, i ∈ vs) (hf : vs.all (frozenAt e) = true) (hz : ds.length < 16000000)
    (h : ∀ d ∈ ds, ∃ e1, t d (wipeE e vs) = .ok e1 ∧ m e1 = .ok (f d, e1)) : mComp src t vs mYes m e = .ok (.l false (ds.map f), e) := by
  rw [mComp_pure (fun d => some (f d)) hsrc to hs hf hz]
  · show Rs.ok (Ce.l false (List.filterMap (some ∘ f) ds), e) = _
    rw [List.filterMap_eq_map]
  · intro d hd
    obtain ⟨e1, h1, h2⟩ := h d hd
    exact ⟨e1, h1, rfl, fun x hx => by cases hx; exact h2⟩
/-- a comprehension by an invariant of what is made and the environment -/
theorem cLoop_inv {t : Tg} {vs : List Nat} {c : M Bool} {m : M D} (I : List D → List D → En → Prop) (hfr : ∀ ds acc e, I ds acc e → vs.all (frozenAt e) = true)
    (step : ∀ d ds acc e, I (d :: ds) acc e → ∃ e1 b e2, t d (wipeE e vs) = .ok e1 ∧ c e1 = .ok (b, e2) ∧ (b = false → I ds acc e2) ∧ (b = true → ∃ x e3, m e2 = .ok (x, e3) ∧ acc.length < 16000000 ∧ I ds (acc ++ [x]) e3)) :
    ∀ (ds acc : List D) (e : En), I ds acc e → ∃ acc' e', cLoop t vs c m ds acc e = .ok (acc', e') ∧ I [] acc' e'
  | [], acc, e, h => ⟨acc, e, by unfold cLoop; rw [if_pos (hfr _ _ _ h)], h⟩
  | d :: ds, acc, e, h => by
    obtain ⟨e1, b, e2, h1, h2, h3, h4⟩ := step d ds acc e h
    unfold cLoop
    rw [if_pos (hfr _ _ _ h), h1]
    simp only [Rs.bind_ok, h2]
    cases b with
    | false =>
      simp only [Bool.false_eq_true, if_false]
      exact cLoop_inv I hfr step ds acc e2 (h3 rfl)
    | true =>
      obtain ⟨x, e3, h5, h6, h7⟩ := h4 rfl
      simp only [if_true, h5, Rs.bind_ok]
      rw [if_pos h6]
      exact cLoop_inv I hfr step ds (acc ++ [x]) e3 h7
theorem powD_i {i j : Int} (h : 0 ≤ j ∧ j ≤ 10000 ∧ i.natAbs < 2 ^ 64) : powD (.int i) (.int j) = .ok (.f (.int (i ^ j.toNat))) := if_pos h
@[simp] theorem powD_10_18 : powD (.int 10) (.int 18) = .ok (.f (.int 1000000000000000000)) := by
  rw [powD_i (by decide)]
  rfl
@[simp] theorem powD_10_9 : powD (.int 10) (.int 9) = .ok (.f (.int 1000000000)) := by
  rw [powD_i (by decide)]
  rfl
@[simp] theorem isT_ii (i : Int) : isT "int" (.int i) = true := by simp [isT, D.ty]
@[simp] theorem isT_ib (b : Bool) : isT "int" (.bool b) = true := by simp [isT, D.ty]
@[simp] theorem isT_in : isT "int" .none = false := by simp [isT, D.ty]
@[simp] theorem isT_is (s : Str) : isT "int" (.str s) = false := by simp [isT, D.ty]
@[simp] theorem isT_it (ds : List D) : isT "int" (.tuple ds) = false := by simp [isT, D.ty]
@[simp] theorem isT_il (ds : List D) : isT "int" (.list ds) = false := by simp [isT, D.ty]
@[simp] theorem isT_bi (i : Int) : isT "bool" (.int i) = false := by simp [isT, D.ty]
@[simp] theorem isT_bb (b : Bool) : isT "bool" (.bool b) = true := by simp [isT, D.ty]
@[simp] theorem isT_bn : isT "bool" .none = false := by simp [isT, D.ty]
@[simp] theorem isT_bs (s : Str) : isT "bool" (.str s) = false := by simp [isT, D.ty]
@[simp] theorem isT_bt (ds : List D) : isT "bool" (.tuple ds) = false := by simp [isT, D.ty]
@[simp] theorem isT_bl (ds : List D) : isT "bool" (.list ds) = false := by simp [isT, D.ty]
@[simp] theorem isT_si (i : Int) : isT "str" (.int i) = false := by simp [isT, D.ty]
@[simp] theorem isT_sb (b : Bool) : isT "str" (.bool b) = false := by simp [isT, D.ty]
@[simp] theorem isT_sn : isT "str" .none = false := by simp [isT, D.ty]
@[simp] theorem isT_ss (s : Str) : isT "str" (.str s) = true := by simp [isT, D.ty]
@[simp] theorem isT_st (ds : List D) : isT "str" (.tuple ds) = false := by simp [isT, D.ty]
@[simp] theorem isT_sl (ds : List D) : isT "str" (.list ds) = false := by simp [isT, D.ty]
@[simp] theorem isT_ti (i : Int) : isT "tuple" (.int i) = false := by simp [isT, D.ty]
@[simp] theorem isT_tb (b : Bool) : isT "tuple" (.bool b) = false := by simp [isT, D.ty]
@[simp] theorem isT_tn : isT "tuple" .none = false := by simp [isT, D.ty]
@[simp] theorem isT_ts (s : Str) : isT "tuple" (.str s) = false := by simp [isT, D.ty]
@[simp] theorem isT_tt (ds : List D) : isT "tuple" (.tuple ds) = true := by simp [isT, D.ty]
@[simp] theorem isT_tl (ds : List D) : isT "tuple" (.list ds) = false := by simp [isT, D.ty]
end DL

namespace DL
open PySem L2 PyProof.Rows
/-! ### lists of ints, loops by the turn -/
def D.isI : D → Bool
  | .int _ => true
  | _ => false
theorem isI_int {d : D} (h : d.isI = true) : ∃ i, d = .int i := by
  cases d <;> first | exact ⟨_, rfl⟩ | cases h
theorem allI_app {xs : List D} {i : Int} (h : xs.all D.isI = true) : (xs ++ [D.int i]).all D.isI = true := by
  rw [List.all_append, h]
  rfl
theorem allI_map {xs : List D} (h : xs.all D.isI = true) : ∃ ds : List Int, xs = ds.map D.int := by
  induction xs with
  | nil => exact ⟨[], rfl⟩
  | cons x xs ih =>
    rw [List.all_cons, Bool.and_eq_true] at h
    obtain ⟨ds, rfl⟩ := ih h.2
    obtain ⟨j, rfl⟩ := isI_int h.1
    exact ⟨j :: ds, rfl⟩
theorem allI_ints (ds : List Int) : (ds.map D.int).all D.isI = true := by
  induction ds with
  | nil => rfl
  | cons a l ih => exact ih
theorem allI_rg (lo : Int) : ∀ n, (rgD lo n).all D.isI = true
  | 0 => rfl
  | n + 1 => allI_rg (lo + 1) n
theorem ioAt_f {e : En} {i : Nat} {a : Option D} (h : e[i]? = some (a.map Ce.f)) : ioAt e i = false := by
  unfold ioAt
  rw [h]
  cases a <;> rfl
theorem tgN_f {e : En} {i : Nat} {a : Option D} {d : D} (h : e[i]? = some (a.map Ce.f)) : tgN i d e = .ok (e.set i (some (.f d))) := by
  rw [tgN_r, ioAt_f h]
  rfl
theorem loop_nx {t : Tg} {b : En → Out} {d : D} {ds : List D} {e e1 e2 : En} (h1 : t d e = .ok e1) (h2 : b e1 = .nx e2) : loopL t b (d :: ds) e = loopL t b ds e2 := by
  rw [loopL_cons, h1]
  simp only [h2]
theorem loop_ct {t : Tg} {b : En → Out} {d : D} {ds : List D} {e e1 e2 : En} (h1 : t d e = .ok e1) (h2 : b e1 = .ct e2) : loopL t b (d :: ds) e = loopL t b ds e2 := by
  rw [loopL_cons, h1]
  simp only [h2]
theorem loop_bk {t : Tg} {b : En → Out} {d : D} {ds : List D} {e e1 e2 : En} (h1 : t d e = .ok e1) (h2 : b e1 = .bk e2) : loopL t b (d :: ds) e = .nx e2 := by
  rw [loopL_cons, h1]
  simp only [h2]
theorem loop_rt {t : Tg} {b : En → Out} {d : D} {ds : List D} {e e1 e2 : En} {c : Ce} (h1 : t d e = .ok e1) (h2 : b e1 = .rt c e2) : loopL t b (d :: ds) e = .rt c e2 := by
  rw [loopL_cons, h1]
  simp only [h2]
theorem seq_nx {a b : En → Out} {e e' : En} (h : a e = .nx e') : sSeq a b e = b e' := by
  rw [sSeq_r, h]
theorem seq_rt {a b : En → Out} {e e' : En} {c : Ce} (h : a e = .rt c e') : sSeq a b e = .rt c e' := by
  rw [sSeq_r, h]
theorem seq_bk {a b : En → Out} {e e' : En} (h : a e = .bk e') : sSeq a b e = .bk e' := by
  rw [sSeq_r, h]
theorem while_t {t : M Bool} {b : En → Out} {e e1 e2 : En} (h1 : t e = .ok (true, e1)) (h2 : b e1 = .nx e2) : sWhile t b e = sWhile t b e2 := by
  rw [sWhile_eq, h1]
  simp only [h2]
theorem while_f {t : M Bool} {b : En → Out} {e e1 : En} (h1 : t e = .ok (false, e1)) : sWhile t b e = .nx e1 := by
  rw [sWhile_eq, h1]
theorem rng1_r {ma : M (List D)} {e e' : En} {n : Int} (h : ma e = .ok ([.int n], e')) (h1 : -(2 ^ 62) ≤ n) (h2 : n < 2 ^ 62) : mRng1 ma e = .ok (rgD 0 n.toNat, e') := by
  rw [mRng1_r, h]
  exact if_pos ⟨h1, h2⟩
theorem ixD_roN {ds : List D} {i : Int} {d : D} (h0 : 0 ≤ i) (h : ds[i.toNat]? = some d) : ixD (.ro ds) (.int i) = .ok (.f d) := by
  have := ixD_rn (n := i.toNat) h
  rwa [Int.toNat_of_nonneg h0] at this
theorem ixD_lN {ds : List D} {i : Int} {d : D} (h0 : 0 ≤ i) (h : ds[i.toNat]? = some d) : ixD (.list ds) (.int i) = .ok (.f d) := by
  have := ixD_ln (n := i.toNat) h
  rwa [Int.toNat_of_nonneg h0] at this
theorem ixD_tN {ds : List D} {i : Int} {d : D} (h0 : 0 ≤ i) (h : ds[i.toNat]? = some d) : ixD (.tuple ds) (.int i) = .ok (.f d) := by
  have := ixD_tn (n := i.toNat) h
  rwa [Int.toNat_of_nonneg h0] at this
end DL

namespace DL
open PySem L2 PyProof.Rows
/-! ### what is never come to; defs joined -/
def sNo : En → Out := fun _ => .no
@[simp] theorem sNo_r (e : En) : sNo e = .no := rfl
theorem pds_no {X : Cx} {sts : List Stmt} : PDs X sts sNo := ⟨fun _ _ _ _ _ _ ⟨_, _, _, _, h⟩ => h.elim⟩
theorem pds_never {X : Cx} {st : Stmt} : PDS X st sNo := ⟨fun _ _ _ _ _ _ ⟨_, _, _, _, h⟩ => h.elim⟩
section
variable {P : Program} {w : World} {K : PySem.W.Frag} {mg : Str → Option Value} {base : Heap}
theorem dfn_no {x : Str} {st : Stmt} {f : Addr} {fd : FuncData} {N ps : List Str} (A : At1 K mg x st ps f fd) (Sc : FnScope N ps (defScope st)) (hN : ps.length ≤ N.length) : DFn P w K mg base x 1 (fun _ => .no) :=
  dfn_ok A Sc hN sNo (fun _ _ _ _ _ _ _ => pds_no) fun _ _ _ h => by cases h
/-- the law's own -/
theorem DFn.law {x : Str} {k : Nat} {S : Sf} {st : Stmt} {f : Addr} {fd : FuncData} {N ps : List Str} (A : At1 K mg x st ps f fd) (Sc : FnScope N ps (defScope st)) (hN : ps.length ≤ N.length) (m : En → Out)
    (hb : ∀ (cdv : Value) (A : Around) (outer : List PySem.Env) (s : Shared) (H : Hp) (E : XK), Room k (A.deeper (envOfC x (defScope st) s.heap.objs.size f cdv)) → PDs (XX P w K mg base N x (defScope st) f cdv A outer s H E) (defBody st) m)
    (hS : ∀ cs c outs, S cs = .ok (c, outs) → cs.length = ps.length ∧ runD N.length m cs = .ok (c, outs)) : FnD P w K mg base (k + 1) f fd ps S := fnD_ok A.fn Sc hN m hb hS
theorem law_sem {n N : Nat} {m : En → Out} (h : ∀ ns : List Int, runD N m [.f (.ro (ns.map .int))] = .ok (.f (.bool true), [])) : ∀ cs c outs, lawS n cs = .ok (c, outs) → cs.length = 1 ∧ runD N m cs = .ok (c, outs) := by
  intro cs c outs hl
  obtain ⟨ns, _, rfl, rfl, rfl⟩ := lawS_ok hl
  exact ⟨rfl, h ns⟩
end
end DL

namespace DL
open PySem L2 PyProof.Rows RT RZ
/-! ### slices -/
def cutD (ds : List D) (lo hi : Option Int) : List D := (ds.drop (HT.sIx ds.length 0 lo)).take (HT.sIx ds.length ds.length hi - HT.sIx ds.length 0 lo)
def slD (x : D) (lo hi : Option Int) : Rs Ce := match x with
  | .tuple ds => .ok (.f (.tuple (cutD ds lo hi)))
  | .list ds => .ok (.l false (cutD ds lo hi))
  | .ro ds => .ok (.l false (cutD ds lo hi))
  | .str s => if s.length ≤ sizeLine then .ok (.f (.str (Txt.slice s lo hi))) else .no
  | _ => .no
def rSlD (K : PySem.W.Frag) : V → Option Int → Option Int → Hp → VK → Prop := fun x lo hi H Q => rSlA K x lo hi H Q ∨ (rSlL K x lo hi H Q ∨ C8.rSlX x lo hi H Q)
theorem sl_all {X : Cx} : SlR X (rSlD X.K) := sl_tupA.or (sl_list.or C8.sl_txt)
section
variable {X : Cx} {tg ex ey ez : Expr} {es : List Expr} {pos p p2 : Pos} {x : Str} {K : PySem.W.Frag} {lo hi : Option Expr}
def tO (K : PySem.W.Frag) (m : M (Option Int)) : TO := fun σ H Q => ∃ G F e d e', R K G F H σ e ∧ m e = .ok (d, e') ∧ ∀ F' H', Nx K G σ F H e F' H' e' → Q d H'
abbrev POd (X : Cx) (e : Option Expr) (m : M (Option Int)) : Prop := PO X e (tO X.K m)
def mO0 : M (Option Int) := fun e => .ok (none, e)
def mO1 (m : M D) : M (Option Int) := fun e => (m e).bind fun p => match p.1 with
  | .int i => .ok (some i, p.2)
  | _ => .no
theorem POimp {t t' : TO} {e : Option Expr} (h : PO X e t) (hi : ∀ σ H Q, t' σ H Q → t σ H Q) : PO X e t' := ⟨fun pins s σ H Q I q => h.run pins s σ H Q I (hi σ H Q q)⟩
theorem pod_none : POd X none mO0 := POimp po_none fun σ H Q ⟨G, F, e, d, e', r, hm, q⟩ => by
  cases hm
  exact q F H (Nx.refl r)
theorem pod_some {m : M D} (h : PF X ex m) : POd X (some ex) (mO1 m) := POimp (po_some h) fun σ H Q ⟨G, F, e, d, e', r, hm, q⟩ => by
  obtain ⟨x, e1, h1, hm⟩ := bind_ok2 hm
  simp only at hm
  split at hm
  · cases hm
    exact ⟨G, F, e, _, _, r, h1, fun v F' H' n hd => ⟨_, hd.int_inv, q F' H' n⟩⟩
  · cases hm
def mSlice (ma : M Hd) (ml mu : M (Option Int)) : M Ce := fun e => (ma e).bind fun p => (ml p.2).bind fun q => (mu q.2).bind fun r => (p.1.get r.2).bind fun x => (slD x q.1 r.1).bind fun c => .ok (c, r.2)
@[simp] theorem mSlice_r (ma : M Hd) (ml mu : M (Option Int)) (e : En) : mSlice ma ml mu e = (ma e).bind fun p => (ml p.2).bind fun q => (mu q.2).bind fun r => (p.1.get r.2).bind fun x => (slD x q.1 r.1).bind fun c => .ok (c, r.2) := rfl
@[simp] theorem mO0_r (e : En) : mO0 e = .ok (none, e) := rfl
@[simp] theorem mO1_r (m : M D) (e : En) : mO1 m e = (m e).bind fun p => match p.1 with
  | .int i => .ok (some i, p.2)
  | _ => .no := rfl
theorem DnA.cut {F : Hp} {xs : List V} {ds : List D} (h : DnA K F xs ds) (lo hi : Option Int) : DnA K F (cutV xs lo hi) (cutD ds lo hi) := by
  unfold cutV cutD
  rw [h.len]
  exact DnA.take _ (DnA.drop _ h)
theorem cutD_whole (ds : List D) (lo hi : Option Int) (h : HT.sIx ds.length 0 lo = 0 ∧ HT.sIx ds.length ds.length hi = ds.length) : cutD ds lo hi = ds := by
  unfold cutD
  rw [h.1, h.2]
  simp
theorem snd_sl (F H : Hp) (x : V) (dx : D) (lo hi : Option Int) (c : Ce) (Q : VK) (fh : Ex F H) (hx : Vw K F H dx x) (hg : slD dx lo hi = .ok c) (q : ∀ v F' H', Go F H F' H' noA → NAt K H F' H' c v → Q v H') : rSlD K x lo hi H Q := by
  cases dx with
  | tuple ds =>
    cases hg
    obtain ⟨a, xs, rfl, h3, h4, h4d⟩ := hx.tuple fh
    refine .inl ⟨a, xs, rfl, h3, fun hw => ?_, fun hw p hp => ?_⟩
    · rw [h4.len] at hw
      rw [cutD_whole ds lo hi hw] at q
      exact ret1 fh h4d rfl q
    · have go : Go F H (upd F p (.tup (cutV xs lo hi))) (upd H p (.tup (cutV xs lo hi))) noA := Go.newF fh hp
      exact q _ _ _ go (.inl ⟨_, rfl, .tup upd_same ((h4.cut lo hi).mono go.ff)⟩)
  | list ds =>
    cases hg
    obtain ⟨a, xs, rfl, h3, h4⟩ := hx.list fh
    refine .inr (.inl ⟨a, xs, rfl, SqL.of h3, fun p hp => ?_⟩)
    exact q _ F _ (Go.newO fh hp) (.inr ⟨rfl, p, _, _, rfl, hp, ex_none fh hp, upd_same, rfl, h4.cut lo hi⟩)
  | ro ds =>
    cases hg
    obtain ⟨a, xs, rfl, h3, h4⟩ := hx.ro fh
    refine .inr (.inl ⟨a, xs, rfl, h3, fun p hp => ?_⟩)
    exact q _ F _ (Go.newO fh hp) (.inr ⟨rfl, p, _, _, rfl, hp, ex_none fh hp, upd_same, rfl, h4.cut lo hi⟩)
  | str s =>
    obtain ⟨h1, hg⟩ := ite_ok hg
    cases hg
    rw [hx.str]
    exact .inr (.inr ⟨s, rfl, h1, ret1 fh (.str _) rfl q⟩)
  | none => cases hg
  | bool b => cases hg
  | int i => cases hg
  | dict t ks vs => cases hg
theorem pn_slice {ma : M Hd} {ml mu : M (Option Int)} (ha : PH X ex ma) (hl : POd X lo ml) (hu : POd X hi mu) : PN X (.Subscript ex (.Slice lo hi none p2) pos) (mSlice ma ml mu) := PEimp (pe_slice sl_all ha hl hu) fun σ H Q ⟨G, F, e, c, e', rr, hm, q⟩ => by
  obtain ⟨x, e1, h1, hm⟩ := bind_ok2 hm
  obtain ⟨l, e2, h2, hm⟩ := bind_ok2 hm
  obtain ⟨u, e3, h3, hm⟩ := bind_ok2 hm
  obtain ⟨dx, h4, hm⟩ := Rs.bind_eq hm
  obtain ⟨c', h5, hm⟩ := Rs.bind_eq hm
  cases hm
  refine ⟨G, F, e, x, e1, rr, h1, fun vx F1 H1 n1 hx => ⟨G, F1, e1, l, e2, n1.r, h2, fun F2 H2 n2 => ⟨G, F2, e2, u, e3, n2.r, h3, fun F3 H3 n3 => ?_⟩⟩⟩
  refine snd_sl F3 H3 vx dx l u c Q n3.r.fh (((hx.nx n2).nx n3).vw n3.r h4) h5 fun v F' H' go nat => ?_
  have n13 := (n1.trans n2).trans n3
  exact q v F' H' (n13.trans (n3.r.step go)) (nat.back n13.go rr.fh)
/-! ### reversed, enumerate, zip -/
def mRev (m : M D) : M (List D) := fun e => (m e).bind fun p => p.1.items.bind fun ds => .ok (ds.reverse, p.2)
@[simp] theorem mRev_r (m : M D) (e : En) : mRev m e = (m e).bind fun p => p.1.items.bind fun ds => .ok (ds.reverse, p.2) := rfl
theorem wk_rev {F : Hp} {a : Addr} {xs : List V} {ds : List D} (h : SqL K F a xs) (hd : DnA K F xs ds) : Wk K (Itv K a xs.length) F ds.reverse := fun i F2 H2 x1 x2 => by
  have hx := x1.trans x2
  have hl := hd.len
  refine ⟨fun d hi => ?_, fun hi => ?_⟩
  · have hlt : i < ds.length := by
      have := (List.getElem?_eq_some_iff.mp hi).1
      simpa using this
    rw [List.getElem?_reverse hlt] at hi
    obtain ⟨w, h1, h2⟩ := hd.get hi
    rw [← hl] at h1
    refine ⟨⟨by omega, xs, w, Evl.ex_l hx h, h1⟩, fun x H3 y => ?_⟩
    obtain ⟨rfl, y⟩ := y
    have := y xs (Evl.ex_l hx h)
    rw [h1] at this
    cases this
    exact ⟨F2, Go.refl x2, h2.mono x1⟩
  · have := List.getElem?_eq_none_iff.mp hi
    rw [List.length_reverse] at this
    show xs.length ≤ i
    omega
theorem wk_revT {F : Hp} {a : Addr} {xs : List V} {ds : List D} (h : SqT K F a xs) (hd : DnA K F xs ds) : Wk K (ItvT K a xs.length) F ds.reverse := fun i F2 H2 x1 x2 => by
  have hx := x1.trans x2
  have hl := hd.len
  refine ⟨fun d hi => ?_, fun hi => ?_⟩
  · have hlt : i < ds.length := by
      have := (List.getElem?_eq_some_iff.mp hi).1
      simpa using this
    rw [List.getElem?_reverse hlt] at hi
    obtain ⟨w, h1, h2⟩ := hd.get hi
    rw [← hl] at h1
    refine ⟨⟨by omega, xs, w, Evl.ex_t hx h, h1⟩, fun x H3 y => ?_⟩
    obtain ⟨rfl, y⟩ := y
    have := y xs (Evl.ex_t hx h)
    rw [h1] at this
    cases this
    exact ⟨F2, Go.refl x2, h2.mono x1⟩
  · have := List.getElem?_eq_none_iff.mp hi
    rw [List.length_reverse] at this
    show xs.length ≤ i
    omega
/-- what is walked stands in the frozen heap: a list, or a tuple -/
theorem items_at {F : Hp} {v : V} {d : D} {ds : List D} (h : Dn K F v d) (hi : d.items = .ok ds) : ∃ a xs, v = .ref a ∧ (SqL K F a xs ∨ SqT K F a xs) ∧ DnA K F xs ds := by
  cases d <;> first
    | (cases hi; done)
    | skip
  · cases hi
    obtain ⟨a, xs, q1, q2, q3⟩ := h.list_inv
    exact ⟨a, xs, q1, .inl (SqL.of q2), q3⟩
  · cases hi
    obtain ⟨a, xs, q1, q2, q3⟩ := h.tuple_inv
    exact ⟨a, xs, q1, .inr q2, q3⟩
  · cases hi
    obtain ⟨a, xs, q1, q2, q3⟩ := h.ro_inv
    exact ⟨a, xs, q1, .inl q2, q3⟩
theorem pid_rev {m : M D} (hg : Gl X "reversed") (hm : X.mg "reversed" = none) (h : PF X ex m) (hs : starEach [ex] X.env = (false, eval ex X.env) :: starEach [] X.env := by rfl) : PId X tg (.Call (.Name "reversed" p) [ex] [] pos) (mRev m) :=
  PIimp (pi_revA hg hm h hs) fun σ H Q ⟨G, F, e, ds, e', r, hm, q⟩ => by
    obtain ⟨d, e1, h1, hm⟩ := bind_ok2 hm
    obtain ⟨ds', h2, hm⟩ := Rs.bind_eq hm
    cases hm
    refine ⟨G, F, e, _, _, r, h1, fun v F' H' n hn => ?_⟩
    obtain ⟨a, xs, rfl, hl | ht, hd⟩ := items_at hn h2
    · exact ⟨a, xs, rfl, .inl ⟨Evl.ex_l n.r.fh hl, q _ F' H' n (wk_rev hl hd)⟩⟩
    · exact ⟨a, xs, rfl, .inr ⟨Evl.ex_t n.r.fh ht, q _ F' H' n (wk_revT ht hd)⟩⟩
def enD (i : Nat) : List D → List D
  | [] => []
  | d :: ds => .tuple [.int (i : Nat), d] :: enD (i + 1) ds
theorem enD_get : ∀ (ds : List D) (k i : Nat), (enD k ds)[i]? = (ds[i]?).map fun d => .tuple [.int ((k + i : Nat) : Int), d]
  | [], _, _ => by simp [enD]
  | d :: ds, k, 0 => by simp [enD]
  | d :: ds, k, i + 1 => by
    rw [enD, List.getElem?_cons_succ, List.getElem?_cons_succ, enD_get ds (k + 1) i, show k + 1 + i = k + (i + 1) by omega]
def mEnum (m : M D) : M (List D) := fun e => (m e).bind fun p => match p.1 with
  | .list ds => .ok (enD 0 ds, p.2)
  | .ro ds => .ok (enD 0 ds, p.2)
  | _ => .no
@[simp] theorem mEnum_r (m : M D) (e : En) : mEnum m e = (m e).bind fun p => match p.1 with
  | .list ds => .ok (enD 0 ds, p.2)
  | .ro ds => .ok (enD 0 ds, p.2)
  | _ => .no := rfl
/-- a pair that a walk has made -/
theorem pair_new {F2 H2 : Hp} {T : Addr} {x y : V} {dx dy : D} (x2 : Ex F2 H2) (hT : H2 T = none) (hx : Dn K F2 x dx) (hy : Dn K F2 y dy) : ∃ F3, Go F2 H2 F3 (upd H2 T (.tup [x, y])) noA ∧ Dn K F3 (.ref T) (.tuple [dx, dy]) := by
  have go : Go F2 H2 (upd F2 T (.tup [x, y])) (upd H2 T (.tup [x, y])) noA := Go.newF x2 hT
  exact ⟨_, go, .tup upd_same (.cons (hx.mono go.ff) (.cons (hy.mono go.ff) .nil))⟩
theorem wk_enum {F : Hp} {a : Addr} {xs : List V} {ds : List D} (h : SqL K F a xs) (hd : DnA K F xs ds) : Wk K (Ite K a) F (enD 0 ds) := fun i F2 H2 x1 x2 => by
  have hx := x1.trans x2
  have hl := hd.len
  refine ⟨fun d hi => ?_, fun hi => ?_⟩
  · rw [enD_get] at hi
    obtain ⟨d0, hi0, rfl⟩ := Option.map_eq_some_iff.mp hi
    replace hi := hi0
    obtain ⟨w, h1, h2⟩ := hd.get hi
    refine ⟨⟨xs, w, Evl.ex_l hx h, h1⟩, fun x H3 y => ?_⟩
    obtain ⟨T, z, rfl, hT, rfl, y⟩ := y
    have := y xs (Evl.ex_l hx h)
    rw [h1] at this
    cases this
    rw [Nat.zero_add]
    exact pair_new x2 hT (.int _) (h2.mono x1)
  · rw [enD_get] at hi
    have := List.getElem?_eq_none_iff.mp (Option.map_eq_none_iff.mp hi)
    exact ⟨xs, Evl.ex_l hx h, by omega⟩
theorem pid_enum {m : M D} {elts : List Expr} {kk : Nat} {tpos : Pos} (hg : Gl X "enumerate") (hm : X.mg "enumerate" = none) (h : PAd X [ex] (aCons m aNil)) (hs : starEach [ex] X.env = [(false, eval ex X.env)] := by rfl) : PId X (.Tuple elts kk tpos) (.Call (.Name "enumerate" p) [ex] [] pos) (mEnum m) :=
  PIimp (pi_enum hg hm h hs) fun σ H Q ⟨G, F, e, ds, e', r, hm, q⟩ => by
    obtain ⟨d, e1, h1, hm⟩ := bind_ok2 hm
    simp only at hm
    have h1' : aCons m aNil e = .ok ([d], e1) := by rw [aCons_r, h1]; rfl
    split at hm
    · rename_i ds'
      cases hm
      refine ⟨G, F, e, _, _, r, h1', fun vs F' H' n hd => ?_⟩
      cases hd with
      | cons g t =>
        cases t
        obtain ⟨a, xs, rfl, hl | ht, hd⟩ := items_at g rfl
        · exact ⟨a, xs, rfl, Evl.ex_l n.r.fh hl, q _ F' H' n (wk_enum hl hd)⟩
        · obtain ⟨a', xs', q1, q2, q3⟩ := g.list_inv
          cases q1
          exact ⟨a, xs', rfl, Evl.ex_l n.r.fh (SqL.of q2), q _ F' H' n (wk_enum (SqL.of q2) q3)⟩
    · rename_i ds'
      cases hm
      refine ⟨G, F, e, _, _, r, h1', fun vs F' H' n hd => ?_⟩
      cases hd with
      | cons g t =>
        cases t
        obtain ⟨a', xs', q1, q2, q3⟩ := g.ro_inv
        cases q1
        exact ⟨a', xs', rfl, Evl.ex_l n.r.fh q2, q _ F' H' n (wk_enum q2 q3)⟩
    · cases hm
def ziD : List D → List D → List D
  | a :: as, b :: bs => .tuple [a, b] :: ziD as bs
  | _, _ => []
theorem ziD_get : ∀ (as bs : List D) (i : Nat), (ziD as bs)[i]? = match as[i]?, bs[i]? with
    | some a, some b => some (.tuple [a, b])
    | _, _ => none
  | [], bs, i => by simp [ziD]
  | a :: as, [], i => by cases i <;> simp [ziD] <;> split <;> simp_all
  | a :: as, b :: bs, 0 => by simp [ziD]
  | a :: as, b :: bs, i + 1 => by
    rw [ziD, List.getElem?_cons_succ, List.getElem?_cons_succ, List.getElem?_cons_succ, ziD_get as bs i]
/-- zip of two lists, or of two tuples -/
def ziA : D → D → Rs (List D)
  | .tuple as, .tuple bs => .ok (ziD as bs)
  | .list as, .list bs => .ok (ziD as bs)
  | .list as, .ro bs => .ok (ziD as bs)
  | .ro as, .list bs => .ok (ziD as bs)
  | .ro as, .ro bs => .ok (ziD as bs)
  | _, _ => .no
def mZip (ma mb : M D) : M (List D) := fun e => (ma e).bind fun p => (mb p.2).bind fun q => (ziA p.1 q.1).bind fun ds => .ok (ds, q.2)
@[simp] theorem mZip_r (ma mb : M D) (e : En) : mZip ma mb e = (ma e).bind fun p => (mb p.2).bind fun q => (ziA p.1 q.1).bind fun ds => .ok (ds, q.2) := rfl
@[simp] theorem ziA_tt (as bs : List D) : ziA (.tuple as) (.tuple bs) = .ok (ziD as bs) := rfl
@[simp] theorem ziA_ll (as bs : List D) : ziA (.list as) (.list bs) = .ok (ziD as bs) := rfl
theorem wk_zip {F : Hp} {a b : Addr} {xs ys : List V} {as bs : List D} (h : SqL K F a xs) (hd : DnA K F xs as) (h' : SqL K F b ys) (hd' : DnA K F ys bs) : Wk K (Itz K a b) F (ziD as bs) := fun i F2 H2 x1 x2 => by
  have hx := x1.trans x2
  have hl := hd.len
  have hl' := hd'.len
  refine ⟨fun d hi => ?_, fun hi => ?_⟩
  · rw [ziD_get] at hi
    split at hi
    · rename_i da db g1 g2
      cases hi
      obtain ⟨w, h1, h2⟩ := hd.get g1
      obtain ⟨w', h1', h2'⟩ := hd'.get g2
      refine ⟨⟨xs, ys, w, w', Evl.ex_l hx h, Evl.ex_l hx h', h1, h1'⟩, fun x H3 y => ?_⟩
      obtain ⟨T, z, z', rfl, hT, rfl, y, y'⟩ := y
      have e1 := y xs (Evl.ex_l hx h)
      have e2 := y' ys (Evl.ex_l hx h')
      rw [h1] at e1
      rw [h1'] at e2
      cases e1
      cases e2
      exact pair_new x2 hT (h2.mono x1) (h2'.mono x1)
    · cases hi
  · rw [ziD_get] at hi
    refine ⟨xs, ys, Evl.ex_l hx h, Evl.ex_l hx h', ?_⟩
    rw [hl, hl']
    by_cases g1 : as.length ≤ i
    · exact .inl g1
    · by_cases g2 : bs.length ≤ i
      · exact .inr g2
      · rw [List.getElem?_eq_getElem (by omega), List.getElem?_eq_getElem (by omega)] at hi
        cases hi
theorem wk_zipT {F : Hp} {a b : Addr} {xs ys : List V} {as bs : List D} (h : SqT K F a xs) (hd : DnA K F xs as) (h' : SqT K F b ys) (hd' : DnA K F ys bs) : Wk K (ItzT K a b) F (ziD as bs) := fun i F2 H2 x1 x2 => by
  have hx := x1.trans x2
  have hl := hd.len
  have hl' := hd'.len
  refine ⟨fun d hi => ?_, fun hi => ?_⟩
  · rw [ziD_get] at hi
    split at hi
    · rename_i da db g1 g2
      cases hi
      obtain ⟨w, h1, h2⟩ := hd.get g1
      obtain ⟨w', h1', h2'⟩ := hd'.get g2
      refine ⟨⟨xs, ys, w, w', Evl.ex_t hx h, Evl.ex_t hx h', h1, h1'⟩, fun x H3 y => ?_⟩
      obtain ⟨T, z, z', rfl, hT, rfl, y, y'⟩ := y
      have e1 := y xs (Evl.ex_t hx h)
      have e2 := y' ys (Evl.ex_t hx h')
      rw [h1] at e1
      rw [h1'] at e2
      cases e1
      cases e2
      exact pair_new x2 hT (h2.mono x1) (h2'.mono x1)
    · cases hi
  · rw [ziD_get] at hi
    refine ⟨xs, ys, Evl.ex_t hx h, Evl.ex_t hx h', ?_⟩
    rw [hl, hl']
    by_cases g1 : as.length ≤ i
    · exact .inl g1
    · by_cases g2 : bs.length ≤ i
      · exact .inr g2
      · rw [List.getElem?_eq_getElem (by omega), List.getElem?_eq_getElem (by omega)] at hi
        cases hi
theorem Dn.sq {F : Hp} {v : V} {ds : List D} (h : Dn K F v (.list ds) ∨ Dn K F v (.ro ds)) : ∃ a xs, v = .ref a ∧ SqL K F a xs ∧ DnA K F xs ds := by
  rcases h with h | h
  · obtain ⟨a, xs, q1, q2, q3⟩ := h.list_inv
    exact ⟨a, xs, q1, SqL.of q2, q3⟩
  · exact h.ro_inv
theorem ziA_at {F : Hp} {v w : V} {d d' : D} {ds : List D} (h : Dn K F v d) (h' : Dn K F w d') (hi : ziA d d' = .ok ds) : ∃ a b xs ys as bs, v = .ref a ∧ w = .ref b ∧ ((SqL K F a xs ∧ SqL K F b ys) ∨ (SqT K F a xs ∧ SqT K F b ys)) ∧ DnA K F xs as ∧ DnA K F ys bs ∧ ds = ziD as bs := by
  unfold ziA at hi
  split at hi <;> first
    | (cases hi; done)
    | skip
  · cases hi
    obtain ⟨a, xs, q1, q2, q3⟩ := h.tuple_inv
    obtain ⟨b, ys, q4, q5, q6⟩ := h'.tuple_inv
    exact ⟨a, b, xs, ys, _, _, q1, q4, .inr ⟨q2, q5⟩, q3, q6, rfl⟩
  · cases hi
    obtain ⟨a, xs, q1, q2, q3⟩ := Dn.sq (.inl h)
    obtain ⟨b, ys, q4, q5, q6⟩ := Dn.sq (.inl h')
    exact ⟨a, b, xs, ys, _, _, q1, q4, .inl ⟨q2, q5⟩, q3, q6, rfl⟩
  · cases hi
    obtain ⟨a, xs, q1, q2, q3⟩ := Dn.sq (.inl h)
    obtain ⟨b, ys, q4, q5, q6⟩ := Dn.sq (.inr h')
    exact ⟨a, b, xs, ys, _, _, q1, q4, .inl ⟨q2, q5⟩, q3, q6, rfl⟩
  · cases hi
    obtain ⟨a, xs, q1, q2, q3⟩ := Dn.sq (.inr h)
    obtain ⟨b, ys, q4, q5, q6⟩ := Dn.sq (.inl h')
    exact ⟨a, b, xs, ys, _, _, q1, q4, .inl ⟨q2, q5⟩, q3, q6, rfl⟩
  · cases hi
    obtain ⟨a, xs, q1, q2, q3⟩ := Dn.sq (.inr h)
    obtain ⟨b, ys, q4, q5, q6⟩ := Dn.sq (.inr h')
    exact ⟨a, b, xs, ys, _, _, q1, q4, .inl ⟨q2, q5⟩, q3, q6, rfl⟩
theorem pid_zip {ma mb : M D} {elts : List Expr} {kk : Nat} {tpos : Pos} (hg : Gl X "zip") (hm : X.mg "zip" = none) (h : PAd X [ex, ey] (aCons ma (aCons mb aNil))) (hs : starEach [ex, ey] X.env = (false, eval ex X.env) :: starEach [ey] X.env := by rfl) (hpl : (backTo pos (starEach [ey] X.env)).any (·.1) = false := by rfl) : PId X (.Tuple elts kk tpos) (.Call (.Name "zip" p) [ex, ey] [] pos) (mZip ma mb) :=
  PIimp (pi_zipA hg hm h hs hpl) fun σ H Q ⟨G, F, e, ds, e', r, hm, q⟩ => by
    obtain ⟨d, e1, h1, hm⟩ := bind_ok2 hm
    obtain ⟨d', e2, h2, hm⟩ := bind_ok2 hm
    obtain ⟨ds', h3, hm⟩ := Rs.bind_eq hm
    cases hm
    have h1' : aCons ma (aCons mb aNil) e = .ok ([d, d'], e2) := by
      simp only [aCons_r, h1, Rs.bind_ok, h2, aNil_r]
    refine ⟨G, F, e, _, _, r, h1', fun vs F' H' n hd => ?_⟩
    cases hd with
    | cons g t =>
      cases t with
      | cons g' t =>
        cases t
        obtain ⟨a, b, xs, ys, as, bs, rfl, rfl, q1 | q1, q2, q3, rfl⟩ := ziA_at g g' h3
        · exact ⟨a, b, xs, ys, rfl, .inl ⟨Evl.ex_l n.r.fh q1.1, Evl.ex_l n.r.fh q1.2, q _ F' H' n (wk_zip q1.1 q2 q1.2 q3)⟩⟩
        · exact ⟨a, b, xs, ys, rfl, .inr ⟨Evl.ex_t n.r.fh q1.1, Evl.ex_t n.r.fh q1.2, q _ F' H' n (wk_zipT q1.1 q2 q1.2 q3)⟩⟩
/-! ### o[i] op= e over a list of one's own -/
theorem get_list : PGet X (rIxL X.K) := by
  intro pins s σ H x y v u Q I rx ry h
  obtain ⟨p, xs, i, z, rfl, rfl, hq, he, q⟩ := h
  cases rx
  obtain ⟨t, rfl⟩ := ry
  obtain ⟨its, r, pl, hz⟩ := I.list hq
  obtain ⟨j, h1, h2, h3, h4, h5⟩ := atI_get he
  obtain ⟨w, ew, rw'⟩ := r.get h2
  have hl := r.length
  have hn := line63
  have fin : EP X pins σ Q w s := ⟨z, H, I, rw', q⟩
  by_cases h0 : 0 ≤ i
  · have hj : i.toNat = j := by
      rw [seqIndex_of h0 h5] at h1
      exact Option.some.inj h1
    exact wpAny_getItem_list pl.isList h0 (by omega) (by rw [hj]; simpa using ew) fin
  · have hj : (i + (its.toArray.size : Int)).toNat = j := by
      rw [seqIndex_neg (by omega) h4] at h1
      rw [List.size_toArray, ← hl]
      exact Option.some.inj h1
    exact wpAny_getItem_list_neg pl.isList (by omega) (by rw [List.size_toArray] <;> omega) (by omega) (by rw [hj]; simpa using ew) fin
/-- xs[j] op= m -/
def sLAug (g : D → D → Rs Ce) (i : Nat) (mj m : M D) : En → Out := fun e => match e[i]? with
  | some (some (.l _ _)) => onR (mj e) fun k e1 => (match e1[i]?, k with
    | some (some (.l _ ds)), .int j => (match atI ds j with
      | some dx => onR (m e1) fun dy e2 => (match g dx dy, e2[i]? with
        | .ok (.f dz), some (some (.l p ds')) => (match ixN ds'.length j with
          | some jj => .nx (e2.set i (some (.l p (ds'.set jj dz))))
          | none => .no)
        | _, _ => .no)
      | none => .no)
    | _, _ => .no)
  | _ => .no
@[simp] theorem sLAug_r (g : D → D → Rs Ce) (i : Nat) (mj m : M D) (e : En) : sLAug g i mj m e = match e[i]? with
  | some (some (.l _ _)) => onR (mj e) fun k e1 => (match e1[i]?, k with
    | some (some (.l _ ds)), .int j => (match atI ds j with
      | some dx => onR (m e1) fun dy e2 => (match g dx dy, e2[i]? with
        | .ok (.f dz), some (some (.l p ds')) => (match ixN ds'.length j with
          | some jj => .nx (e2.set i (some (.l p (ds'.set jj dz))))
          | none => .no)
        | _, _ => .no)
      | none => .no)
    | _, _ => .no)
  | _ => .no := rfl
theorem atI_dn {F : Hp} {xs : List V} {ds : List D} {j : Int} {d : D} (h : DnA K F xs ds) (hj : atI ds j = some d) : ∃ v, atI xs j = some v ∧ Dn K F v d := by
  unfold atI at *
  rw [← h.len] at hj
  obtain ⟨k, h1, h2⟩ := Option.bind_eq_some_iff.mp hj
  obtain ⟨v, h3, h4⟩ := h.get h2
  exact ⟨v, by rw [h1]; exact h3, h4⟩
theorem pds_augS {i : Nat} {op : Operator} {r : R2} {g : D → D → Rs Ce} {mj m : M D} {tpos : Pos} (ho : PE X ex (tVar i)) (hi : PF X ey mj) (he : PF X ez m) (hop : OpR X (inplaceOp op) r) (hsnd : Snd2 X.K r g)
    (ha : ∀ ov iv new, augStore ey ov iv new = (do holding [new, ov, iv] (setItem ov iv new); release [new, ov, iv] []; pure .next) := by intros; rfl) :
    PDS X (.AugAssign (.Subscript ex ey tpos) op ez pos) (sLAug g i mj m) := PSimp (ps_augS ho hi get_list he hop set_list ha) fun E σ H ⟨G, F, e, rr, hp⟩ => by
  unfold sLAug at hp
  split at hp
  · rename_i p00 ds00 q0
    obtain ⟨k, e1, h1, hp⟩ := onR_inv hp
    split at hp
    · rename_i p0 ds j q1
      split at hp
      · rename_i dx q2
        obtain ⟨dy, e2, h2, hp⟩ := onR_inv hp
        split at hp
        · rename_i dz p ds' q3 q4
          split at hp
          · rename_i jj q5
            obtain ⟨a, xs0, s0, _⟩ := lst_at q0 rr rfl
            refine ⟨.ref a, s0, G, F, e, .int j, e1, rr, h1, fun y F1 H1 n1 hdk => ?_⟩
            obtain ⟨a1, xs1, s1, _, y2, y4⟩ := lst_at q1 n1.r rfl
            rw [s0] at s1
            cases s1
            obtain ⟨vx, g1, g2⟩ := atI_dn y4 q2
            refine ⟨a, xs1, j, vx, rfl, hdk.int_inv, SqL.of y2, g1, G, F1, e1, dy, e2, n1.r, h2, fun vy F2 H2 n2 hdy => ?_⟩
            refine hsnd F2 H2 vx vy dx dy _ _ n2.r.fh (.inl (n2.dn g2)) (.inl hdy) q3 fun z F3 H3 go nat => ?_
            have n3 := n2.r.step go
            obtain ⟨a2, xs2, s2, _, w2, w4⟩ := lst_at q4 n3.r rfl
            rw [s0] at s2
            cases s2
            refine ⟨a, xs2, j, jj, rfl, hdk.int_inv, w2, by rw [w4.len]; exact q5, ?_⟩
            have n4 := n3.r.wr (c' := .l p (ds'.set jj dz)) q4 s0 rfl (by cases p <;> rfl) (o' := .lst (xs2.set jj z)) (xs' := xs2.set jj z) rfl (w4.set jj nat.fz)
            exact hp F3 _ σ n4.r (((n1.go.ff.trans n2.go.ff)).trans go.ff)
          · exact hp.elim
        · exact hp.elim
      · exact hp.elim
    · exact hp.elim
  · exact hp.elim
end
end DL

namespace DL
open PySem L2 PyProof.Rows RT RZ
/-! ### sum, min, max, all, any -/
def intsOf : List D → Option (List Int)
  | [] => some []
  | .int i :: ds => (intsOf ds).map fun is => i :: is
  | _ :: _ => none
theorem intsOf_eq : ∀ {ds : List D} {is : List Int}, intsOf ds = some is → ds = is.map .int
  | [], is, h => by cases h; rfl
  | d :: ds, is, h => by
    cases d <;> first
      | (cases h; done)
      | skip
    obtain ⟨js, h1, rfl⟩ := Option.map_eq_some_iff.mp h
    rw [intsOf_eq h1]
    rfl
@[simp] theorem intsOf_ints (is : List Int) : intsOf (is.map .int) = some is := by
  induction is with
  | nil => rfl
  | cons i is ih => show (intsOf (is.map .int)).map _ = _; rw [ih]; rfl
def boolsOf : List D → Option (List Bool)
  | [] => some []
  | .bool i :: ds => (boolsOf ds).map fun is => i :: is
  | _ :: _ => none
theorem boolsOf_eq : ∀ {ds : List D} {is : List Bool}, boolsOf ds = some is → ds = is.map .bool
  | [], is, h => by cases h; rfl
  | d :: ds, is, h => by
    cases d <;> first
      | (cases h; done)
      | skip
    obtain ⟨js, h1, rfl⟩ := Option.map_eq_some_iff.mp h
    rw [boolsOf_eq h1]
    rfl
@[simp] theorem boolsOf_bools (is : List Bool) : boolsOf (is.map .bool) = some is := by
  induction is with
  | nil => rfl
  | cons i is ih => show (boolsOf (is.map .bool)).map _ = _; rw [ih]; rfl
def rSumT (K : PySem.W.Frag) : List V → Hp → VK → Prop := fun vs H Q => ∃ (a : Addr) (ns : List Int), vs = [V.ref a] ∧ SqT K H a (ns.map V.int) ∧ Q (.int ns.sum) H
theorem cr_sumT {X : Cx} (hc : X.calm = true) : CallR X (.builtin "sum") (rSumT X.K) := by
  intro pins s σ H vs us Q I r h
  obtain ⟨a, ns, rfl, hs, q⟩ := h
  obtain ⟨its, rv, hl, _⟩ := I.tuple hs
  rw [Vals.ref1 r]
  obtain ⟨xs, hx⟩ := rv.ints.allInts.items
  have hn : numsOf its.toArray.toList = ns := by rw [show its.toArray.toList = its from rfl, rv.ints.numsOf]
  rw [hx] at hl hn
  rw [nums_intItems] at hn
  refine PySem.W.ktm_sumG (I.ok.hd hc) hl fun h' tk t' hk => ?_
  rw [preSum_eq, List.take_of_length_le (by simp), hn]
  exact ⟨.int _, H, I.kept hk, ⟨_, rfl⟩, q⟩
def rSumA (K : PySem.W.Frag) : List V → Hp → VK → Prop := fun vs H Q => rSum K vs H Q ∨ rSumT K vs H Q
theorem call_sumA {X : Cx} (hc : X.calm = true) : CallR X (.builtin "sum") (rSumA X.K) := (cr_sum hc).or (cr_sumT hc)
section
variable {K : PySem.W.Frag}
/-- the ints of what is a list or a tuple of ints -/
def seqInts : D → Option (List Int)
  | .list ds => intsOf ds
  | .ro ds => intsOf ds
  | .tuple ds => intsOf ds
  | _ => none
def sumD : List D → Rs Ce
  | [d] => (match seqInts d with
    | some is => .ok (.f (.int is.sum))
    | none => .no)
  | _ => .no
theorem vw_ints {F H : Hp} {x : V} {d : D} {is : List Int} (fh : Ex F H) (h : Vw K F H d x) (hi : seqInts d = some is) : ∃ a, x = .ref a ∧ (SqL K H a (is.map .int) ∨ (SqT K H a (is.map .int) ∧ ∃ ds, d = .tuple ds)) := by
  cases d <;> first
    | (cases hi; done)
    | skip
  · have := intsOf_eq hi
    subst this
    obtain ⟨a, xs, rfl, h3, h4⟩ := h.list fh
    rw [h4.ints] at h3
    exact ⟨a, rfl, .inl (SqL.of h3)⟩
  · have := intsOf_eq hi
    subst this
    obtain ⟨a, xs, rfl, h3, h4, _⟩ := h.tuple fh
    rw [h4.ints] at h3
    exact ⟨a, rfl, .inr ⟨h3, _, rfl⟩⟩
  · have := intsOf_eq hi
    subst this
    obtain ⟨a, xs, rfl, h3, h4⟩ := h.ro fh
    rw [h4.ints] at h3
    exact ⟨a, rfl, .inl h3⟩
theorem snd_sum : SndL K (rSumA K) sumD := fun F H xs ds c Q fh hx hg q => by
  unfold sumD at hg
  split at hg
  · rename_i d
    split at hg
    · rename_i is hi
      cases hg
      obtain ⟨x, rfl, h⟩ := hx.one (ds := [])
      obtain ⟨a, rfl, h3 | ⟨h3, _⟩⟩ := vw_ints fh h hi
      · exact .inl ⟨a, is, rfl, h3, ret1 fh (.int _) rfl q⟩
      · exact .inr ⟨a, is, rfl, h3, ret1 fh (.int _) rfl q⟩
    · cases hg
  · cases hg
def maxL : List Int → Int
  | [] => 0
  | [i] => i
  | i :: j :: is => let m := maxL (j :: is); if i < m then m else i
def minL : List Int → Int
  | [] => 0
  | [i] => i
  | i :: j :: is => let m := minL (j :: is); if m < i then m else i
theorem maxL_mem : ∀ {l : List Int}, l ≠ [] → maxL l ∈ l ∧ ∀ y ∈ l, y ≤ maxL l
  | [i], _ => ⟨List.mem_cons_self, fun y hy => by rw [List.mem_singleton.mp hy]; exact Int.le_refl _⟩
  | i :: j :: is, _ => by
    obtain ⟨h1, h2⟩ := maxL_mem (l := j :: is) (List.cons_ne_nil _ _)
    show (if i < maxL (j :: is) then maxL (j :: is) else i) ∈ _ ∧ ∀ y ∈ _, y ≤ if i < maxL (j :: is) then maxL (j :: is) else i
    split
    · refine ⟨List.mem_cons_of_mem _ h1, fun y hy => ?_⟩
      rcases List.mem_cons.mp hy with rfl | hy
      · omega
      · exact h2 y hy
    · refine ⟨List.mem_cons_self, fun y hy => ?_⟩
      rcases List.mem_cons.mp hy with rfl | hy
      · omega
      · have := h2 y hy
        omega
theorem minL_mem : ∀ {l : List Int}, l ≠ [] → minL l ∈ l ∧ ∀ y ∈ l, minL l ≤ y
  | [i], _ => ⟨List.mem_cons_self, fun y hy => by rw [List.mem_singleton.mp hy]; exact Int.le_refl _⟩
  | i :: j :: is, _ => by
    obtain ⟨h1, h2⟩ := minL_mem (l := j :: is) (List.cons_ne_nil _ _)
    show (if minL (j :: is) < i then minL (j :: is) else i) ∈ _ ∧ ∀ y ∈ _, (if minL (j :: is) < i then minL (j :: is) else i) ≤ y
    split
    · refine ⟨List.mem_cons_of_mem _ h1, fun y hy => ?_⟩
      rcases List.mem_cons.mp hy with rfl | hy
      · omega
      · exact h2 y hy
    · refine ⟨List.mem_cons_self, fun y hy => ?_⟩
      rcases List.mem_cons.mp hy with rfl | hy
      · omega
      · have := h2 y hy
        omega
theorem maxL_uniq {l : List Int} {m : Int} (h1 : m ∈ l) (h2 : ∀ y ∈ l, y ≤ m) : maxL l = m := by
  obtain ⟨h3, h4⟩ := maxL_mem (List.ne_nil_of_mem h1)
  have := h2 _ h3
  have := h4 _ h1
  omega
theorem minL_uniq {l : List Int} {m : Int} (h1 : m ∈ l) (h2 : ∀ y ∈ l, m ≤ y) : minL l = m := by
  obtain ⟨h3, h4⟩ := minL_mem (List.ne_nil_of_mem h1)
  have := h2 _ h3
  have := h4 _ h1
  omega
/-- of a list of ints, or of two ints -/
def maxD : List D → Rs Ce
  | [.list ds] => (match intsOf ds with
    | some (i :: is) => .ok (.f (.int (maxL (i :: is))))
    | _ => .no)
  | [.int i, .int j] => .ok (.f (.int (if j > i then j else i)))
  | _ => .no
def minD : List D → Rs Ce
  | [.list ds] => (match intsOf ds with
    | some (i :: is) => .ok (.f (.int (minL (i :: is))))
    | _ => .no)
  | [.int i, .int j] => .ok (.f (.int (if j < i then j else i)))
  | _ => .no
def rMaxA (K : PySem.W.Frag) : List V → Hp → VK → Prop := fun xs H Q => rMax K xs H Q ∨ ∃ i j, xs = [.int i, .int j] ∧ Q (.int (if j > i then j else i)) H
def rMinA (K : PySem.W.Frag) : List V → Hp → VK → Prop := fun xs H Q => rMin K xs H Q ∨ ∃ i j, xs = [.int i, .int j] ∧ Q (.int (if j < i then j else i)) H
theorem call_maxA {X : Cx} (hc : X.calm = true) : CallR X (.builtin "max") (rMaxA X.K) := (cr_max hc).or (call_max2 hc)
theorem call_minA {X : Cx} (hc : X.calm = true) : CallR X (.builtin "min") (rMinA X.K) := (cr_min hc).or (call_min2 hc)
theorem snd_max : SndL K (rMaxA K) maxD := fun F H xs ds c Q fh hx hg q => by
  unfold maxD at hg
  split at hg
  · rename_i ds
    split at hg
    · rename_i i is hi
      cases hg
      obtain ⟨x, rfl, h⟩ := hx.one (ds := [])
      obtain ⟨a, rfl, h3 | ⟨h3, ds', e⟩⟩ := vw_ints fh h (is := i :: is) hi
      · exact .inl ⟨a, i :: is, rfl, h3, by simp, fun m h4 h5 => by rw [← maxL_uniq h4 h5]; exact ret1 fh (.int _) rfl q⟩
      · cases e
    · cases hg
  · cases hg
    obtain ⟨x, y, rfl, h1, h2⟩ := hx.two
    rw [h1.int, h2.int]
    exact .inr ⟨_, _, rfl, ret1 fh (.int _) rfl q⟩
  · cases hg
theorem snd_min : SndL K (rMinA K) minD := fun F H xs ds c Q fh hx hg q => by
  unfold minD at hg
  split at hg
  · rename_i ds
    split at hg
    · rename_i i is hi
      cases hg
      obtain ⟨x, rfl, h⟩ := hx.one (ds := [])
      obtain ⟨a, rfl, h3 | ⟨h3, ds', e⟩⟩ := vw_ints fh h (is := i :: is) hi
      · exact .inl ⟨a, i :: is, rfl, h3, by simp, fun m h4 h5 => by rw [← minL_uniq h4 h5]; exact ret1 fh (.int _) rfl q⟩
      · cases e
    · cases hg
  · cases hg
    obtain ⟨x, y, rfl, h1, h2⟩ := hx.two
    rw [h1.int, h2.int]
    exact .inr ⟨_, _, rfl, ret1 fh (.int _) rfl q⟩
  · cases hg
def allD : List D → Rs Ce
  | [.list ds] => (match boolsOf ds with
    | some bs => .ok (.f (.bool (bs.all id)))
    | none => .no)
  | _ => .no
def anyD : List D → Rs Ce
  | [.list ds] => (match boolsOf ds with
    | some bs => .ok (.f (.bool (bs.any id)))
    | none => .no)
  | _ => .no
theorem snd_all : SndL K (rAll K) allD := fun F H xs ds c Q fh hx hg q => by
  unfold allD at hg
  split at hg
  · rename_i ds
    split at hg
    · rename_i bs hi
      cases hg
      have := boolsOf_eq hi
      subst this
      obtain ⟨x, rfl, h⟩ := hx.one (ds := [])
      obtain ⟨a, xs, rfl, h3, h4⟩ := h.list fh
      rw [DnA.bools h4] at h3
      exact ⟨a, bs, rfl, SqL.of h3, ret1 fh (.bl _) rfl q⟩
    · cases hg
  · cases hg
theorem snd_any : SndL K (rAny K) anyD := fun F H xs ds c Q fh hx hg q => by
  unfold anyD at hg
  split at hg
  · rename_i ds
    split at hg
    · rename_i bs hi
      cases hg
      have := boolsOf_eq hi
      subst this
      obtain ⟨x, rfl, h⟩ := hx.one (ds := [])
      obtain ⟨a, xs, rfl, h3, h4⟩ := h.list fh
      rw [DnA.bools h4] at h3
      exact ⟨a, bs, rfl, SqL.of h3, ret1 fh (.bl _) rfl q⟩
    · cases hg
  · cases hg
end
@[simp] theorem sumD_l (is : List Int) : sumD [.list (is.map .int)] = .ok (.f (.int is.sum)) := by simp [sumD, seqInts]
@[simp] theorem sumD_t (is : List Int) : sumD [.tuple (is.map .int)] = .ok (.f (.int is.sum)) := by simp [sumD, seqInts]
theorem maxD_l {is : List Int} (h : is ≠ []) : maxD [.list (is.map .int)] = .ok (.f (.int (maxL is))) := by
  cases is with
  | nil => exact absurd rfl h
  | cons i is =>
    have : intsOf ((i :: is).map D.int) = some (i :: is) := intsOf_ints _
    simp only [maxD, this]
theorem minD_l {is : List Int} (h : is ≠ []) : minD [.list (is.map .int)] = .ok (.f (.int (minL is))) := by
  cases is with
  | nil => exact absurd rfl h
  | cons i is =>
    have : intsOf ((i :: is).map D.int) = some (i :: is) := intsOf_ints _
    simp only [minD, this]
@[simp] theorem maxD_2 (i j : Int) : maxD [.int i, .int j] = .ok (.f (.int (if j > i then j else i))) := rfl
@[simp] theorem minD_2 (i j : Int) : minD [.int i, .int j] = .ok (.f (.int (if j < i then j else i))) := rfl
@[simp] theorem allD_l (bs : List Bool) : allD [.list (bs.map .bool)] = .ok (.f (.bool (bs.all id))) := by simp [allD]
@[simp] theorem anyD_l (bs : List Bool) : anyD [.list (bs.map .bool)] = .ok (.f (.bool (bs.any id))) := by simp [anyD]
end DL

namespace DL
open PySem L2 PyProof.Rows RT RZ
/-! ### a list taken apart -/
def tgL (ts : List Tg) : Tg := fun d e => match d with
  | .list ds => tgAll ts ds e
  | .ro ds => tgAll ts ds e
  | _ => .no
@[simp] theorem tgL_l (ts : List Tg) (ds : List D) (e : En) : tgL ts (.list ds) e = tgAll ts ds e := rfl
@[simp] theorem tgL_r (ts : List Tg) (ds : List D) (e : En) : tgL ts (.ro ds) e = tgAll ts ds e := rfl
section
variable {X : Cx} {pos : Pos}
theorem pgd_lst {tgs : List Expr} {ts : List Tg} {is : List Nat} {k n : Nat} (hc : X.calm = true) (h : PGds X tgs ts is) (hl : ts.length = n) (hn : (assignEach tgs X.env).length = n := by rfl) (hst : (assignEach tgs X.env).findIdx? (·.1) = none := by rfl) : PGd X (.Tuple tgs k pos) (tgL ts) is :=
  PGimp (pg_unl hc h hn hst) fun v σ H Q ⟨G, F, e, d, e', r, hd, ht, q⟩ => by
    have key : ∀ (ts : List Tg) (ds : List D) (e : En), tgAll ts ds e = .ok e' → ts.length = ds.length := by
      intro ts
      induction ts with
      | nil => intro ds e h; cases ds with
        | nil => rfl
        | cons d ds => cases h
      | cons t ts ih => intro ds e h; cases ds with
        | nil => cases h
        | cons d ds =>
          obtain ⟨e1, _, h4⟩ := Rs.bind_eq h
          rw [List.length_cons, List.length_cons, ih ds e1 h4]
    unfold tgL at ht
    split at ht
    · rename_i ds
      obtain ⟨a, xs, rfl, h1, h2⟩ := Dn.sq (.inl hd)
      exact ⟨a, xs, rfl, Evl.ex_l r.fh h1, by rw [h2.len, ← key ts ds e ht, hl], G, F, e, ds, e', r, h2, ht, q⟩
    · rename_i ds
      obtain ⟨a, xs, rfl, h1, h2⟩ := Dn.sq (.inr hd)
      exact ⟨a, xs, rfl, Evl.ex_l r.fh h1, by rw [h2.len, ← key ts ds e ht, hl], G, F, e, ds, e', r, h2, ht, q⟩
    · cases ht
end
end DL

namespace DL
open PySem L2 PyProof.Rows RT RZ
/-! ### xs.index(i) -/
def indexD : D → D → Rs Ce
  | .list ds, .int i => (match intsOf ds with
    | some is => (match is.findIdx? (· == i) with
      | some k => .ok (.f (.int (k : Int)))
      | none => .no)
    | none => .no)
  | _, _ => .no
def mIndex (ma mb : M D) : M Ce := fun e => (ma e).bind fun p => if isT "list" p.1 = true then (mb p.2).bind fun q => (indexD p.1 q.1).bind fun c => .ok (c, q.2) else .no
@[simp] theorem mIndex_r (ma mb : M D) (e : En) : mIndex ma mb e = (ma e).bind fun p => if isT "list" p.1 = true then (mb p.2).bind fun q => (indexD p.1 q.1).bind fun c => .ok (c, q.2) else .no := rfl
theorem indexD_l {is : List Int} {i : Int} {k : Nat} (h : is.findIdx? (· == i) = some k) : indexD (.list (is.map .int)) (.int i) = .ok (.f (.int (k : Int))) := by
  simp only [indexD, intsOf_ints, h]
theorem indexD_inv {d i : D} {c : Ce} (h : indexD d i = .ok c) : ∃ (is : List Int) (j : Int) (k : Nat), d = .list (is.map .int) ∧ i = .int j ∧ is.findIdx? (· == j) = some k ∧ c = .f (.int (k : Int)) := by
  cases d <;> first
    | (cases h; done)
    | skip
  cases i <;> first
    | (cases h; done)
    | skip
  rename_i ds j
  cases hi : intsOf ds with
  | none => simp [indexD, hi] at h
  | some is =>
    cases hk : is.findIdx? (· == j) with
    | none => simp [indexD, hi, hk] at h
    | some k =>
      simp [indexD, hi, hk] at h
      exact ⟨is, j, k, by rw [intsOf_eq hi], rfl, hk, h.symm⟩
section
variable {X : Cx} {pos : Pos} {ex : Expr}
theorem pn_index {apos : Pos} {eo : Expr} {ma mb : M D} (ho : PF X eo ma) (he : PF X ex mb) (hbase : attributeBase eo "index" X.env (eval eo X.env) = eval eo X.env := by rfl)
    (hfew : ((backTo pos (starEach [ex] X.env)).all (fun y => !y.1) && (backToKw pos (keywordEach [] X.env)).all (fun y => y.1.isSome) && decide ([ex].length + ([] : List Keyword).length + (if ([] : List Keyword).isEmpty then 0 else 1) < 30)) = true := by rfl)
    (hline : (apos.endLine == pos.line) = true := by rfl) (hs : starEach [ex] X.env = (false, eval ex X.env) :: starEach [] X.env := by rfl) (hpl : (backTo pos (starEach [] X.env)).any (fun y => y.1) = false := by rfl) :
    PN X (.Call (.Attribute eo "index" apos) [ex] [] pos) (mIndex ma mb) :=
  PEimp (pe_bm PySem.F.plainAttrs_list PySem.F.slot_list_index PySem.F.type_list_index mt_index ho (pa_cons he pa_nil hs) hbase hfew hline hs hpl) fun σ H Q ⟨G, F, e, c, e', r, hm, q⟩ => by
  obtain ⟨d, e1, h1, hm⟩ := bind_ok2 hm
  obtain ⟨hx, hm⟩ := ite_ok hm
  obtain ⟨i, e2, h2, hm⟩ := bind_ok2 hm
  obtain ⟨c', h3, hm⟩ := Rs.bind_eq hm
  cases hm
  obtain ⟨is, i, k, rfl, rfl, hk, rfl⟩ := indexD_inv h3
  refine ⟨G, F, e, _, e1, r, h1, fun v F1 H1 n1 hv => ?_⟩
  obtain ⟨a, xs, rfl, g1, g2⟩ := Dn.sq (.inl hv)
  cases g2.ints
  refine ⟨.inl ⟨rfl, _, Evl.ex_l n1.r.fh g1⟩, G, F1, e1, _, _, n1.r, h2, fun w F2 H2 n2 hw => ?_⟩
  cases hw.int_inv
  obtain ⟨kl, k1, k2⟩ := List.findIdx?_eq_some_iff_getElem.mp hk
  have fl : (is.map V.int).all flatV = true := List.all_eq_true.mpr fun v hv => by
    obtain ⟨j, _, rfl⟩ := List.mem_map.mp hv
    rfl
  refine ⟨a, is.map .int, .int i, k, .int is[k], rfl, rfl, Evl.ex_l (n2.go.ff.trans n2.r.fh) g1, rfl, fl, by rw [List.getElem?_map, List.getElem?_eq_getElem kl]; rfl, k1, fun m z' hm hz => ?_, q _ F2 H2 (n1.trans n2) (.inl ⟨_, rfl, .int _⟩)⟩
  have hml : m < is.length := by omega
  rw [List.getElem?_map, List.getElem?_eq_getElem hml] at hz
  cases hz
  have := k2 m hm
  exact eq_false_of_ne_true this
end
/-! ### a tuple some times -/
def rRep2 (K : PySem.W.Frag) : R2 := fun x y H Q => ∃ a k xs, x = .ref a ∧ y = .int k ∧ SqT K H a xs ∧ 0 < xs.length ∧ xs.length ≤ 100 ∧ 2 ≤ k ∧ k ≤ 9000 ∧ ∀ p, H p = none → Q (.ref p) (upd H p (.tup (List.replicate k.toNat xs).flatten))
section
variable {X : Cx}
theorem op_rep2 : OpR X (binaryOp .Mult) (rRep2 X.K) := by
  intro ps st σ H x y vx vy Q I rx ry ⟨a, k, xs, ex, ey, hT, hp, hm, k2, k9, go⟩
  subst ex ey
  cases rx
  obtain ⟨tk, rfl⟩ := ry
  obtain ⟨its, rel, ⟨⟨cl, dd, dt, sls⟩, hob, hcl, n, hdt⟩, _⟩ := I.tuple hT
  simp only at hcl hdt
  subst hcl hdt
  have hlen : its.length = xs.length := rel.length.symm
  have hsz : its.toArray.size = xs.length := by rw [List.size_toArray, hlen]
  have hemp : its.toArray.isEmpty = false := by
    rcases its with _ | ⟨i0, i1⟩
    · exact absurd hlen (by simp; omega)
    · rfl
  have hprod : ((its.toArray.size : Nat) : Int) * k ≤ 900000 := by
    have h := Int.mul_le_mul_of_nonneg_right (a := (xs.length : Int)) (b := 100) (c := k) (by omega) (by omega)
    rw [hsz]
    omega
  have hflat : (List.replicate k.toNat its).flatten.length ≤ sizeLine := by
    have h := Nat.mul_le_mul (show k.toNat ≤ 9000 by omega) hm
    rw [PyProof.Rows.lm_len_rep_flat, hlen, sizeLine_eq]
    omega
  have fit : (decide (k < -(2 ^ 63)) || decide (k ≥ 2 ^ 63)) = false := by simp; omega
  have one : (its.toArray.isEmpty || k == 1) = false := by rw [hemp]; simp; omega
  have pos : (decide (k ≤ 0) || its.toArray.isEmpty) = false := by rw [hemp]; simp; omega
  have many : Builtin.Tuple.tupleTooMany (((its.toArray.size : Nat) : Int) * k) = false := by
    unfold Builtin.Tuple.tupleTooMany
    simp only [sizeLine_eq, decide_eq_false_iff_not]
    omega
  have meets := tuple_mulW a its.toArray n dd sls k tk fit one pos (by omega) many (by rw [size_rep, List.size_toArray]; exact hflat)
  have hty := fun (z : Shared) => typeIs_int z k tk
  refine wpAny_binaryOp_repeat_ref (T := "tuple") (U := "int") (by decide) ⟨_, hob, rfl⟩ hty noFill_tuple_mul F.fills_int_mul F.slot_int_rmul repeat_tuple F.slot_int_index.lookup ?_
  refine call_meets F.slot_int_rmul (hty st) F.entry_int_rmul (F.args_int_rmul_2 _ _) (int_rmul_tuple k tk a its.toArray n dd sls) ⟨hob, rfl, ⟨_, hob, rfl⟩, ?_⟩
  refine call_meets F.slot_tuple_mul ⟨_, hob, rfl⟩ F.entry_tuple_mul (F.args_tuple_mul_2 _ _) meets ⟨hob, ?_⟩
  rw [size_rep]
  have new := IsTup.new st.heap (List.replicate k.toNat its).flatten.toArray
  refine ⟨.ref st.heap.objs.size, _, I.laid (t' := st.toks) (o := .tup (List.replicate k.toNat xs).flatten) (fun b o' q => Heap.get?_push_of_some _ q) (Nat.le_refl _) ⟨?_, _, rel.rep k.toNat, IsTup.new _ _⟩, rfl, go _ (I.hok.fresh (Nat.le_refl _))⟩
  have h := Nat.mul_le_mul (show k.toNat ≤ 9000 by omega) hm
  rw [PyProof.Rows.lm_len_rep_flat, sizeLine_eq]
  omega
end
def repD : D → D → Rs Ce
  | .tuple ds, .int k => if 0 < ds.length ∧ ds.length ≤ 100 ∧ 2 ≤ k ∧ k ≤ 9000 then .ok (.f (.tuple (List.replicate k.toNat ds).flatten)) else .no
  | _, _ => .no
theorem snd_rep {K : PySem.W.Frag} : Snd2 K (rRep2 K) repD := fun F H x y dx dy c Q fh hx hy hg q => by
  unfold repD at hg
  split at hg
  · rename_i ds k
    obtain ⟨⟨h1, h2, h3, h4⟩, hg⟩ := ite_ok hg
    cases hg
    rw [hy.int]
    obtain ⟨a, xs, rfl, g1, g2, g3⟩ := hx.tuple fh
    refine ⟨a, k, xs, rfl, rfl, g1, by rw [g2.len]; exact h1, by rw [g2.len]; exact h2, h3, h4, fun p hp => ?_⟩
    have go : Go F H (upd F p (.tup (List.replicate k.toNat xs).flatten)) (upd H p (.tup (List.replicate k.toNat xs).flatten)) noA := Go.newF fh hp
    exact q _ _ _ go (.inl ⟨_, rfl, .tup upd_same ((DnA.rep g2 _).mono go.ff)⟩)
  · cases hg
/-! ### xs[i], xs[j] = a, b -/
def putK (i : Nat) (mj : M D) (v : D) (k : En → Out) : En → Out := fun e1 => match e1[i]? with
  | some (some (.l _ _)) => onR (mj e1) fun kx e2 => (match e2[i]?, kx with
    | some (some (.l p ds)), .int j => (match ixN ds.length j with
      | some jj => k (e2.set i (some (.l p (ds.set jj v))))
      | none => .no)
    | _, _ => .no)
  | _ => .no
def sPut2 (i : Nat) (mj mk m : M D) : En → Out := fun e => onR (m e) fun d e1 => match d with
  | .tuple [a, b] => putK i mj a (putK i mk b .nx) e1
  | _ => .no
section
variable {K : PySem.W.Frag} {G : Bs} {F F1 H1 : Hp} {σ : L2.St} {e1 : En} {i : Nat} {E : Ends}
theorem put_ok {mj : M D} {k : En → Out} {v : V} {dv : D} {Q : L2.St → Hp → Prop} (r : R K G F1 H1 σ e1) (hd : Dn K F1 v dv) (hp : Post K G F E (putK i mj dv k e1)) (ct : ∀ F2 H2 e2, Nx K G σ F1 H1 e1 F2 H2 e2 → Post K G F E (k e2) → Q σ H2) : gSub (tVar i) (tF K mj) rSetL v σ H1 Q := by
  unfold putK at hp
  split at hp
  · rename_i p0 ds0 g0
    obtain ⟨dk, e2, h2, hp⟩ := onR_inv hp
    obtain ⟨a, xs0, s0, _⟩ := lst_at g0 r rfl
    refine ⟨.ref a, s0, G, F1, e1, dk, e2, r, h2, fun y F2 H2 n2 hdk => ?_⟩
    split at hp
    · rename_i p ds j g2
      split at hp
      · rename_i jj hj
        obtain ⟨a', xs, s1, y1, y2, y4⟩ := lst_at g2 n2.r rfl
        rw [s0] at s1
        cases s1
        refine ⟨a, xs, j, jj, rfl, hdk.int_inv, y2, by rw [y4.len]; exact hj, ?_⟩
        have n3 := n2.r.wr (c' := .l p (ds.set jj dv)) g2 s0 rfl (by cases p <;> rfl) (o' := .lst (xs.set jj v)) (xs' := xs.set jj v) rfl (y4.set jj (n2.dn hd))
        exact ct F2 _ _ (n2.trans n3) hp
      · exact hp.elim
    · exact hp.elim
  · exact hp.elim
end
section
variable {X : Cx} {pos p1 p2 p3 p4 : Pos} {o1 o2 i1 i2 ez : Expr} {i kk : Nat}
theorem pds_put2 {mj mk m : M D} (hc : X.calm = true) (ho : PE X o1 (tVar i)) (hi : PF X i1 mj) (ho2 : PE X o2 (tVar i)) (hi2 : PF X i2 mk) (hv : PF X ez m)
    (hn : (assignEach [.Subscript o1 i1 p1, .Subscript o2 i2 p2] X.env).length = 2 := by rfl) (hst : (assignEach [.Subscript o1 i1 p1, .Subscript o2 i2 p2] X.env).findIdx? (fun z => z.1) = none := by rfl)
    (hs1 : (assignEach [.Subscript o1 i1 p1, .Subscript o2 i2 p2] X.env).map (fun z => z.2) = assign (.Subscript o1 i1 p1) X.env :: (assignEach [.Subscript o2 i2 p2] X.env).map (fun z => z.2) := by rfl)
    (hs2 : (assignEach [.Subscript o2 i2 p2] X.env).map (fun z => z.2) = assign (.Subscript o2 i2 p2) X.env :: (assignEach [] X.env).map (fun z => z.2) := by rfl)
    (hs : swapsWithSole [.Tuple [.Subscript o1 i1 p1, .Subscript o2 i2 p2] kk p3] ez pos.line X.env = pure false := by rfl) (hw : swappedStores [.Tuple [.Subscript o1 i1 p1, .Subscript o2 i2 p2] kk p3] ez X.env = pure none := by rfl)
    (h1 : (assignEach [.Tuple [.Subscript o1 i1 p1, .Subscript o2 i2 p2] kk p3] X.env).map (fun z => z.2) = [assign (.Tuple [.Subscript o1 i1 p1, .Subscript o2 i2 p2] kk p3) X.env] := by rfl)
    (ha : ∀ v, assign (.Subscript o1 i1 p1) X.env v = (do
      let ov ← holding [v] (eval o1 X.env)
      let iv ← holding [v, ov] (eval i1 X.env)
      standAt p1
      holding [v, ov, iv] (setItem ov iv v)
      release [v, ov, iv] []) := by intro _; rfl)
    (ha2 : ∀ v, assign (.Subscript o2 i2 p2) X.env v = (do
      let ov ← holding [v] (eval o2 X.env)
      let iv ← holding [v, ov] (eval i2 X.env)
      standAt p2
      holding [v, ov, iv] (setItem ov iv v)
      release [v, ov, iv] []) := by intro _; rfl) :
    PDS X (.Assign [.Tuple [.Subscript o1 i1 p1, .Subscript o2 i2 p2] kk p3] ez pos) (sPut2 i mj mk m) :=
  PSimp (ps_asg hv (pg_tup hc (pgs_cons (pg_sub ho hi set_list ha) (pgs_cons (pg_sub ho2 hi2 set_list ha2) pgs_nil hs2) hs1) hn hst) hs hw h1) fun E σ H ⟨G, F, e, r, hp⟩ => by
  obtain ⟨dv, e1, h1, hp⟩ := onR_inv hp
  refine ⟨G, F, e, dv, e1, r, h1, fun v F1 H1 n1 hdv => ?_⟩
  split at hp
  · rename_i a b
    obtain ⟨p, xs, rfl, g1, g2⟩ := hdv.tuple_inv
    cases g2 with
    | cons da t1 =>
      cases t1 with
      | cons db t2 =>
        cases t2
        refine ⟨p, _, rfl, Evl.ex_t n1.r.fh g1, rfl, _, _, rfl, put_ok n1.r da hp fun F2 H2 e2 n2 hp2 => ?_⟩
        refine ⟨_, _, rfl, put_ok n2.r (n2.dn db) hp2 fun F3 H3 e3 n3 hp3 => ⟨rfl, ?_⟩⟩
        exact hp3 F3 H3 σ n3.r (n1.go.ff.trans (n2.go.ff.trans n3.go.ff))
  · exact hp.elim
end
end DL

namespace DL
open PySem L2 PyProof.Rows RT RZ
/-! ### comprehensions over what is told by a list of one's own -/
theorem mComp_of {α : Type} {src : M (List D)} {t : Tg} {vs is : List Nat} {m : M D} {e : En} (xs : List α) (enc g : α → D) (hsrc : src e = .ok (xs.map enc, e)) (to : TgOk t is) (hs : ∀ i ∈ is, i ∈ vs) (hf : vs.all (frozenAt e) = true) (hz : xs.length < 16000000)
    (h : ∀ x ∈ xs, ∃ e1, t (enc x) (wipeE e vs) = .ok e1 ∧ m e1 = .ok (g x, e1)) : mComp src t vs mYes m e = .ok (.l false (xs.map g), e) := by
  obtain ⟨acc, e', h1, dn, rest, k1, k2, k3, k4, k5⟩ := cLoop_inv (t := t) (vs := vs) (c := mYes) (m := m) (fun ds acc e' => ∃ dn rest, xs = dn ++ rest ∧ ds = rest.map enc ∧ acc = dn.map g ∧ wipeE e' vs = wipeE e vs ∧ vs.all (frozenAt e') = true)
    (fun ds acc e' ⟨_, _, _, _, _, _, k⟩ => k) (fun d ds acc e' ⟨dn, rest, k1, k2, k3, k4, k5⟩ => by
      cases rest with
      | nil => cases k2
      | cons x rest =>
        obtain ⟨rfl, rfl⟩ := List.cons.inj k2
        obtain ⟨e1, q1, q2⟩ := h x (by rw [k1]; simp)
        refine ⟨e1, true, e1, by rw [k4]; exact q1, rfl, (fun z => by cases z), fun _ => ⟨g x, e1, q2, ?_, dn ++ [x], rest, by rw [k1]; simp, rfl, by rw [k3]; simp, wipeE_idem to hs q1, tg_fr to q1⟩⟩
        rw [k3, List.length_map]
        have := congrArg List.length k1
        rw [List.length_append] at this
        omega) (xs.map enc) [] e ⟨[], xs, rfl, rfl, rfl, rfl, hf⟩
  rw [mComp_r, hsrc]
  simp only [Rs.bind_ok, h1]
  rw [restE_same k4, k3]
  cases rest with
  | nil => rw [k1, List.append_nil]
  | cons a b => cases k2
theorem rg_enc (n : Nat) : rgD 0 n = (List.range n).map fun (i : Nat) => D.int (i : Int) := by
  rw [rgD_map]
  congr 1
  funext i
  rw [Int.zero_add]
theorem comp_rg {t : Tg} {vs is : List Nat} {m : M D} {e : En} {ma : M (List D)} {n : Nat} (g : Nat → D) (hsrc : ma e = .ok ([.int (n : Int)], e)) (to : TgOk t is) (hs : ∀ i ∈ is, i ∈ vs) (hf : vs.all (frozenAt e) = true) (hz : n < 16000000)
    (h : ∀ k, k < n → ∃ e1, t (.int (k : Int)) (wipeE e vs) = .ok e1 ∧ m e1 = .ok (g k, e1)) : mComp (mRng1 ma) t vs mYes m e = .ok (.l false ((List.range n).map g), e) := by
  refine mComp_of (List.range n) (fun i => .int (i : Int)) g ?_ to hs hf (by rw [List.length_range]; exact hz) fun x hx => h x (List.mem_range.mp hx)
  rw [rng1_r hsrc (by omega) (by omega), Int.toNat_natCast, rg_enc]
/-- a loop over a range of ints: one step, one number more -/
theorem loop_rg {b : En → Out} {i : Nat} (I : Nat → En → Prop) (n : Nat) : ∀ (m lo : Nat), lo + m = n → (∀ k e, lo ≤ k → k < n → I k e → ∃ e1 e2, tgN i (.int (k : Int)) e = .ok e1 ∧ b e1 = .nx e2 ∧ I (k + 1) e2) → ∀ e, I lo e → ∃ e', loopL (tgN i) b (rgD (lo : Int) m) e = .nx e' ∧ I n e'
  | 0, lo, h, _, e, he => ⟨e, rfl, by rw [← h]; exact he⟩
  | m + 1, lo, h, st, e, he => by
    obtain ⟨e1, e2, h1, h2, h3⟩ := st lo e (Nat.le_refl _) (by omega) he
    obtain ⟨e', g1, g2⟩ := loop_rg I n m (lo + 1) (by omega) (fun k e hk => st k e (by omega)) e2 h3
    exact ⟨e', (loop_nx h1 h2).trans g1, g2⟩
theorem for_rD {m : M (List D)} {t : Tg} {b : En → Out} {e e' : En} {ds : List D} (h : m e = .ok (ds, e')) : sFor m t b e = loopL t b ds e' := by
  rw [sFor_r, h]
  rfl
end DL
namespace DL
open PySem L2 PyProof.Rows RT RZ
/-- a loop over a range that tells at the first number of a kind -/
theorem loop_first {b : En → Out} {i n lo0 : Nat} {P : Nat → Bool} (I : En → Prop) (Rv : Nat → Ce) (step : ∀ k e, lo0 ≤ k → k < n → I e → ∃ e1, tgN i (.int (k : Int)) e = .ok e1 ∧ ((P k = false ∧ ∃ e2, b e1 = .nx e2 ∧ I e2) ∨ (P k = true ∧ ∃ e2, b e1 = .rt (Rv k) e2))) :
    ∀ (m lo : Nat), lo + m = n → lo0 ≤ lo → ∀ e, I e → (∃ e', loopL (tgN i) b (rgD (lo : Int) m) e = .nx e' ∧ I e' ∧ ∀ k, lo ≤ k → k < n → P k = false) ∨ ∃ k e', loopL (tgN i) b (rgD (lo : Int) m) e = .rt (Rv k) e' ∧ lo ≤ k ∧ k < n ∧ P k = true ∧ ∀ j, lo ≤ j → j < k → P j = false
  | 0, lo, h, _, e, he => .inl ⟨e, rfl, he, fun k h1 h2 => by omega⟩
  | m + 1, lo, h, hl, e, he => by
    obtain ⟨e1, h1, ⟨hp, e2, h2, h3⟩ | ⟨hp, e2, h2⟩⟩ := step lo e hl (by omega) he
    · rcases loop_first I Rv step m (lo + 1) (by omega) (by omega) e2 h3 with ⟨e', g1, g2, g3⟩ | ⟨k, e', g1, g2, g3, g4, g5⟩
      · refine .inl ⟨e', (loop_nx h1 h2).trans g1, g2, fun k k1 k2 => ?_⟩
        rcases Nat.eq_or_lt_of_le k1 with z | z
        · rw [← z]; exact hp
        · exact g3 k z k2
      · refine .inr ⟨k, e', (loop_nx h1 h2).trans g1, by omega, g3, g4, fun j j1 j2 => ?_⟩
        rcases Nat.eq_or_lt_of_le j1 with z | z
        · rw [← z]; exact hp
        · exact g5 j z j2
    · exact .inr ⟨lo, e2, loop_rt h1 h2, Nat.le_refl _, by omega, hp, fun j j1 j2 => by omega⟩
theorem ixD_end (p : List D) (d : D) : ixD (.list (p ++ [d])) (.int (-1)) = .ok (.f d) := by
  have e1 : ixN (p.length + 1) (-1) = some p.length := by
    unfold ixN
    rw [if_neg (by decide), if_pos (by omega)]
    congr 1
    omega
  have : atI (p ++ [d]) (-1) = some d := by simp [atI, e1]
  rw [ixD_l, this]
theorem rng2_i {ma : M (List D)} {e e' : En} {lo n : Int} (h : ma e = .ok ([.int lo, .int n], e')) (h1 : -(2 ^ 62) ≤ lo) (h2 : lo < 2 ^ 62) (h3 : -(2 ^ 62) ≤ n) (h4 : n < 2 ^ 62) : mRng2 ma e = .ok (rgD lo (n - lo).toNat, e') := by
  rw [mRng2_r, h]
  exact if_pos ⟨h1, h2, h3, h4⟩
theorem rng2_n {ma : M (List D)} {e e' : En} {lo n : Nat} (h : ma e = .ok ([.int (lo : Int), .int (n : Int)], e')) (h1 : lo < 100000) (h2 : n < 100000) : mRng2 ma e = .ok (rgD (lo : Int) (n - lo), e') := by
  rw [rng2_i h (by omega) (by omega) (by omega) (by omega), show ((n : Int) - (lo : Int)).toNat = n - lo by omega]
end DL

namespace DL
open PySem L2 PyProof.Rows RT RZ
/-! ### methods of a text alone -/
def mS0 (g : Str → Rs D) (ma : M D) : M Ce := fun e => (ma e).bind fun p => match p.1 with
  | .str s => (g s).bind fun d => .ok (.f d, p.2)
  | _ => .no
@[simp] theorem mS0_r (g : Str → Rs D) (ma : M D) (e : En) : mS0 g ma e = (ma e).bind fun p => match p.1 with
  | .str s => (g s).bind fun d => .ok (.f d, p.2)
  | _ => .no := rfl
def gLower (s : Str) : Rs D := if s.length ≤ 5592405 then .ok (.str (Txt.lower s)) else .no
def gIsalpha (s : Str) : Rs D := .ok (.bool (Txt.isalpha s))
def gIsalnum (s : Str) : Rs D := .ok (.bool (Txt.isalnum s))
def gIsascii (s : Str) : Rs D := .ok (.bool (Txt.isascii s))
section
variable {X : Cx} {pos : Pos} {ex : Expr}
theorem ms0_inv {g : Str → Rs D} {ma : M D} {e e' : En} {c : Ce} (hm : mS0 g ma e = .ok (c, e')) : ∃ s d, ma e = .ok (.str s, e') ∧ g s = .ok d ∧ c = .f d := by
  obtain ⟨d, e1, h1, hm⟩ := bind_ok2 hm
  dsimp only at hm
  cases d <;> first
    | (cases hm; done)
    | skip
  obtain ⟨d, h2, hm⟩ := Rs.bind_eq hm
  cases hm
  exact ⟨_, d, h1, h2, rfl⟩
theorem pn_lower {apos : Pos} {eo : Expr} {ma : M D} (ho : PF X eo ma) (hbase : attributeBase eo "lower" X.env (eval eo X.env) = eval eo X.env := by rfl) (hline : (apos.endLine == pos.line) = true := by rfl) :
    PN X (.Call (.Attribute eo "lower" apos) [] [] pos) (mS0 gLower ma) := PEimp (pe_lower ho hbase hline) fun σ H Q ⟨G, F, e, c, e', r, hm, q⟩ => by
  obtain ⟨s, d, h1, h2, rfl⟩ := ms0_inv hm
  obtain ⟨hz, h2⟩ := ite_ok h2
  cases h2
  refine ⟨G, F, e, _, _, r, h1, fun v F1 H1 n1 hv => ?_⟩
  cases hv.str_inv
  exact ⟨⟨s, rfl⟩, s, rfl, rfl, hz, q _ F1 H1 n1 (.inl ⟨_, rfl, .str _⟩)⟩
theorem pn_isalpha {apos : Pos} {eo : Expr} {ma : M D} (ho : PF X eo ma) (hbase : attributeBase eo "isalpha" X.env (eval eo X.env) = eval eo X.env := by rfl) (hline : (apos.endLine == pos.line) = true := by rfl) :
    PN X (.Call (.Attribute eo "isalpha" apos) [] [] pos) (mS0 gIsalpha ma) := PEimp (pe_m0 PySem.F.slot_str_isalpha PySem.F.type_str_isalpha mt_isalpha ho hbase hline) fun σ H Q ⟨G, F, e, c, e', r, hm, q⟩ => by
  obtain ⟨s, d, h1, h2, rfl⟩ := ms0_inv hm
  cases h2
  refine ⟨G, F, e, _, _, r, h1, fun v F1 H1 n1 hv => ?_⟩
  cases hv.str_inv
  exact ⟨⟨s, rfl⟩, s, rfl, rfl, trivial, q _ F1 H1 n1 (.inl ⟨_, rfl, .bl _⟩)⟩
theorem pn_isalnum {apos : Pos} {eo : Expr} {ma : M D} (ho : PF X eo ma) (hbase : attributeBase eo "isalnum" X.env (eval eo X.env) = eval eo X.env := by rfl) (hline : (apos.endLine == pos.line) = true := by rfl) :
    PN X (.Call (.Attribute eo "isalnum" apos) [] [] pos) (mS0 gIsalnum ma) := PEimp (pe_m0 PySem.F.slot_str_isalnum PySem.F.type_str_isalnum mt_isalnum ho hbase hline) fun σ H Q ⟨G, F, e, c, e', r, hm, q⟩ => by
  obtain ⟨s, d, h1, h2, rfl⟩ := ms0_inv hm
  cases h2
  refine ⟨G, F, e, _, _, r, h1, fun v F1 H1 n1 hv => ?_⟩
  cases hv.str_inv
  exact ⟨⟨s, rfl⟩, s, rfl, rfl, trivial, q _ F1 H1 n1 (.inl ⟨_, rfl, .bl _⟩)⟩
theorem pn_isascii {apos : Pos} {eo : Expr} {ma : M D} (ho : PF X eo ma) (hbase : attributeBase eo "isascii" X.env (eval eo X.env) = eval eo X.env := by rfl) (hline : (apos.endLine == pos.line) = true := by rfl) :
    PN X (.Call (.Attribute eo "isascii" apos) [] [] pos) (mS0 gIsascii ma) := PEimp (pe_m0 PySem.F.slot_str_isascii PySem.F.type_str_isascii mt_isascii ho hbase hline) fun σ H Q ⟨G, F, e, c, e', r, hm, q⟩ => by
  obtain ⟨s, d, h1, h2, rfl⟩ := ms0_inv hm
  cases h2
  refine ⟨G, F, e, _, _, r, h1, fun v F1 H1 n1 hv => ?_⟩
  cases hv.str_inv
  exact ⟨⟨s, rfl⟩, s, rfl, rfl, trivial, q _ F1 H1 n1 (.inl ⟨_, rfl, .bl _⟩)⟩
end
/-! ### str(i) -/
def strD : List D → Rs Ce
  | [.int i] => if i.natAbs < 2 ^ 1900 then .ok (.f (.str (toString i))) else .no
  | _ => .no
theorem log2_lt {n : Nat} (h : n < 2 ^ 1900) : n.log2 < 1920 := by
  rcases Nat.eq_zero_or_pos n with z | z
  · subst z; decide
  · have := (Nat.log2_lt (by omega)).mpr h
    omega
theorem snd_str {K : PySem.W.Frag} : SndL K (fun xs H Q => ∃ i, xs = [.int i] ∧ i.natAbs.log2 < 1920 ∧ Q (.str (toString i)) H) strD := fun F H xs ds c Q fh hx hg q => by
  unfold strD at hg
  split at hg
  · rename_i i
    obtain ⟨hz, hg⟩ := ite_ok hg
    cases hg
    cases hx with
    | cons h1 h2 =>
      cases h2
      rw [h1.int]
      exact ⟨i, rfl, log2_lt hz, ret1 fh (.str _) rfl q⟩
  · cases hg
/-! ### dict(pairs) -/
def prD : D → Option (Key × D)
  | .tuple [k, v] => k.key.map fun k => (k, v)
  | _ => none
def prsD : List D → Option (List (Key × D))
  | [] => some []
  | d :: ds => match prD d, prsD ds with
    | some p, some ps => some (p :: ps)
    | _, _ => none
def dictPD : List D → Rs Ce
  | [.list ds] => (match prsD ds with
    | some kvs => if (kvs.map (·.1)).Nodup then .ok (.k false false (kvs.map fun p => kD p.1) (kvs.map (·.2))) else .no
    | none => .no)
  | _ => .no
theorem merge_nodup : ∀ (kvs acc : List (Key × V)), ((acc ++ kvs).map (·.1)).Nodup → mergeK acc kvs = acc ++ kvs
  | [], acc, _ => by simp [mergeK]
  | (k, v) :: kvs, acc, h => by
    have hk : (acc.any fun kv => decide (kv.1 = k)) = false := by
      rw [List.any_eq_false]
      intro p hp
      have hn : p.1 ≠ k := by
        intro e
        rw [List.map_append, List.nodup_append] at h
        exact h.2.2 p.1 (List.mem_map.mpr ⟨p, hp, rfl⟩) k (by simp) e
      simpa using hn
    have hput : L2.putK acc k v = acc ++ [(k, v)] := by
      unfold L2.putK
      rw [if_neg (by rw [hk]; decide)]
    have : mergeK acc ((k, v) :: kvs) = mergeK (L2.putK acc k v) kvs := rfl
    rw [this, hput, merge_nodup kvs (acc ++ [(k, v)]) (by simpa using h)]
    simp
section
variable {K : PySem.W.Frag} {F H : Hp}
theorem prs_at (fh : Ex F H) : ∀ {xs : List V} {ds : List D} {kvs : List (Key × D)}, DnA K F xs ds → prsD ds = some kvs → ∃ (ps : List Addr) (kvv : List (Key × V)), xs = ps.map V.ref ∧ PySem.Paired (fun p kv => SqT K H p [kV kv.1, kv.2]) ps kvv ∧ kvv.map (·.1) = kvs.map (·.1) ∧ DnA K F (kvv.map (·.2)) (kvs.map (·.2))
  | _, [], kvs, .nil, h => by cases h; exact ⟨[], [], rfl, .nil, rfl, .nil⟩
  | _, d :: ds, kvs, .cons hd ha, h => by
    unfold prsD at h
    split at h
    · rename_i p ps0 h1 h2
      cases h
      obtain ⟨ps, kvv, rfl, q1, q2, q3⟩ := prs_at fh ha h2
      unfold prD at h1
      split at h1
      · rename_i k v
        obtain ⟨kk, hk, rfl⟩ := Option.map_eq_some_iff.mp h1
        obtain ⟨a, xs, rfl, g1, g2⟩ := hd.tuple_inv
        cases g2 with
        | cons dk t1 =>
          cases t1 with
          | cons dv t2 =>
            cases t2
            rename_i x y
            have hx : x = kV kk := by
              rw [key_kD hk] at dk
              cases kk with
              | inl i => exact dk.int_inv
              | inr s => exact dk.str_inv
            subst hx
            exact ⟨a :: ps, (kk, y) :: kvv, rfl, .cons (Evl.ex_t fh g1) q1, by simp [q2], .cons dv q3⟩
      · cases h1
    · cases h
theorem snd_dictP : SndL K (fun xs H Q => ∃ (a : Addr) (ps : List Addr) (kvs : List (Key × V)), xs = [.ref a] ∧ SqL K H a (ps.map V.ref) ∧ PySem.Paired (fun p kv => SqT K H p [kV kv.1, kv.2]) ps kvs ∧
    ∀ p, H p = none → Q (.ref p) (upd H p (.dK (mergeK [] kvs)))) dictPD := fun F H xs ds c Q fh hx hg q => by
  unfold dictPD at hg
  split at hg
  · rename_i ds
    split at hg
    · rename_i kvs hk
      obtain ⟨hn, hg⟩ := ite_ok hg
      cases hg
      cases hx with
      | cons h1 h2 =>
        cases h2
        obtain ⟨a, xs, rfl, g1, g2⟩ := h1.list fh
        obtain ⟨ps, kvv, rfl, q1, q2, q3⟩ := prs_at fh g2 hk
        refine ⟨a, ps, kvv, rfl, .inl (.inl g1), q1, fun p hp => ?_⟩
        rw [merge_nodup kvv [] (by rw [List.nil_append, q2]; exact hn), List.nil_append]
        refine q _ F _ (Go.newO fh hp) (.inr ⟨rfl, p, _, kvv.map (·.2), rfl, hp, ex_none fh hp, upd_same, .inl ⟨rfl, kvv, rfl, ?_, rfl⟩, q3⟩)
        have e1 : kvv.map (fun p => kD p.1) = (kvv.map (·.1)).map kD := by rw [List.map_map]; rfl
        have e2 : kvs.map (fun p => kD p.1) = (kvs.map (·.1)).map kD := by rw [List.map_map]; rfl
        rw [e1, e2, q2]
    · cases hg
  · cases hg
end
end DL

namespace DL
open PySem PySem.Spec PyProof.Rows
/-! ### len(set(texts)) -/
theorem gd_eq {xs : List Str} {i : Nat} (h : i < xs.length) : xs.getD i Str.empty = xs[i] := by
  rw [List.getD_eq_getElem?_getD, List.getElem?_eq_getElem h]
  rfl
/-- how many unlike ones among the first -/
def dkn (xs : List Str) : Nat → Nat
  | 0 => 0
  | i + 1 => if (xs.take i).any (fun y => y == xs.getD i Str.empty) = true then dkn xs i else dkn xs i + 1
theorem dkn_le (xs : List Str) : ∀ i, dkn xs i ≤ i
  | 0 => Nat.le_refl _
  | i + 1 => by
    have := dkn_le xs i
    unfold dkn
    split <;> omega
theorem dkn_nodup {xs : List Str} (h : xs.Nodup) : ∀ i, i ≤ xs.length → dkn xs i = i
  | 0, _ => rfl
  | i + 1, hi => by
    have e := dkn_nodup h i (by omega)
    have hf : (xs.take i).any (fun y => y == xs.getD i Str.empty) = false := by
      rw [List.any_eq_false]
      intro y hy
      obtain ⟨j, hj, rfl⟩ := List.getElem_of_mem hy
      rw [List.length_take] at hj
      rw [List.getElem_take, gd_eq (by omega)]
      intro q
      have := (List.getElem_inj h).mp (eq_of_beq q)
      omega
    unfold dkn
    rw [hf, e]
    rfl
theorem any_next {xs : List Str} {i : Nat} (h : i < xs.length) (z : Str) : ((xs.take i).any (fun y => y == z) || decide (z = xs.getD i Str.empty)) = (xs.take (i + 1)).any (fun y => y == z) := by
  rw [List.take_succ, List.any_append, List.getElem?_eq_getElem h, gd_eq h]
  rw [show (some xs[i]).toList = [xs[i]] from rfl, List.any_cons, List.any_nil, Bool.or_false]
  congr 1
  by_cases q : z = xs[i]
  · rw [decide_eq_true q, q]
    simp
  · rw [decide_eq_false q]
    exact (beq_eq_false_iff_ne.mpr (Ne.symm q)).symm
section
variable {prog : Program} {w : World} {A : Around} {R : Result → Shared → Prop} {it : Addr} {fp wr : List Addr} {G : Array GenState → Array GenState → Prop} {n : Nat} {P : Nat → Value → Prop} {St : Nat → Shared → Prop}
theorem fillStr (wk : WalksS prog w A.in1 it fp wr G n P St) (a : Addr) (ha : a ∉ fp) (xs : List Str) (hx : xs.length = n) (hn : n ≤ 1000) (hv : ∀ i v, P i v → ∃ t, v = .str (xs.getD i Str.empty) t) :
    ∀ (k i : Nat) (s : Shared), n - i = k → i ≤ n → St i s → s.heap.SetOf (PySem.strKind prog w) a (fun z => (xs.take i).any (fun y => y == z)) (dkn xs i) →
      (∀ s', Moved (a :: wr) G s s' → s'.heap.SetOf (PySem.strKind prog w) a (fun z => (xs.take n).any (fun y => y == z)) (dkn xs n) → R (.ok (.ret .none)) s') → codeAny (model prog w) A (.builtin "set.update.loop" ⟨[.ref a, .ref it], []⟩) R s := by
  have nw : a ∉ wr := fun q => ha (wk.sub _ q)
  have sb : ∀ b ∈ wr, b ∈ a :: wr := fun b q => List.mem_cons_of_mem _ q
  have far : ∀ {s s' : Shared} {T : Str → Bool} {m : Nat}, Moved wr G s s' → s.heap.SetOf (PySem.strKind prog w) a T m → s'.heap.SetOf (PySem.strKind prog w) a T m := fun {s s' T m} hm ⟨o, es, ep, t, ho, rest⟩ => ⟨o, es, ep, t, hm.heap a _ nw ho, rest⟩
  intro k
  induction k with
  | zero =>
    intro i s hk hi st hS fin
    obtain rfl : i = n := by omega
    apply codeAny_builtin PyProof.Rows.F.entry_set_update_loop
    rw [Around.under_plainId PyProof.Rows.F.plain_set_update_loop _] <;> skip
    exact wpAny_bind (wk.done s _ _ st fun s' hm => wpAny_pure (fin s' (hm.mono sb) (far hm hS)))
  | succ k ih =>
    intro i s hk hi st hS fin
    have lt : i < n := by omega
    have room := dkn_le xs i
    apply codeAny_builtin PyProof.Rows.F.entry_set_update_loop
    rw [Around.under_plainId PyProof.Rows.F.plain_set_update_loop _] <;> skip
    refine wpAny_bind (wk.item i s _ _ lt st fun v s1 hP st1 hm => ?_)
    obtain ⟨t, rfl⟩ := hv i v hP
    have hS1 := far hm hS
    refine wpAny_bind (wpAny_holding ?_)
    unfold setAdd
    refine wpAny_holding (wpAny_bind ((PySem.strKind prog w).pyHash (k := xs.getD i Str.empty) (strKind_is _ _ _ _) ?_))
    refine wpAny_setAddHashed_of (knd := PySem.strKind prog w) (s := { s1 with toks := s1.toks + 1 }) (strKind_is _ _ _ _) rfl hS1 (by unfold scanBound; omega) fun h2 same hS2 => ?_
    have hS3 : h2.SetOf (PySem.strKind prog w) a (fun z => (xs.take (i + 1)).any (fun y => y == z)) (dkn xs (i + 1)) := SetOf_congr hS2 (fun z => any_next (by omega) z) rfl
    have keep : ∀ (b : Addr), b ≠ a → ∀ o, s1.heap.get? b = some o → h2.get? b = some o := fun b hb o e => by
      rw [same.2 b hb]
      exact e
    refine wpAny_pure ⟨plainId_quiet PyProof.Rows.F.plain_set_update_loop _, ih (i + 1) _ (by omega) lt (wk.frame _ s1 _ _ st1 (Nat.le_succ _) fun b hb o e => keep b (fun q => ha (q ▸ hb)) o e) hS3 fun s3 hm3 hS4 => ?_⟩
    exact fin s3 (Moved.trans wk.gtrans ((hm.mono sb).then_heap (Nat.le_succ _) fun b o hb e => keep b (fun q => hb (q ▸ List.mem_cons_self)) o e) hm3) hS4
end
end DL

namespace DL
open PySem PySem.Spec PyProof.Rows
/-- what a set of texts is, made of a list -/
def MadeOf (prog : Program) (w : World) (xs : List Str) (s : Shared) (h' : Heap) : Prop :=
  h'.SetOf (PySem.strKind prog w) s.heap.objs.size (fun z => (xs.take xs.length).any (fun y => y == z)) (dkn xs xs.length) ∧ ∀ b o, b < s.heap.objs.size → s.heap.get? b = some o → h'.get? b = some o
section
variable {prog : Program} {w : World} {A : Around} {E : Value → Shared → Prop} {s : Shared}
set_option maxHeartbeats 6000000 in
theorem set_of_texts {l : Addr} {items : Array Value} {xs : List Str} {Q : Value → Shared → Prop} (quiet : A.handled = none) (lst : s.heap.IsList l items) (txt : PyProof.Rows.StrsAre items.toList xs) (few : xs.length ≤ 1000)
    (done : ∀ (h' : Heap) (tk : Nat), MadeOf prog w xs s h' → Q (.ref s.heap.objs.size) { s with heap := h', toks := tk }) : wpAny (model prog w) A (call (.type "set") [.ref l]) Q E s := by
  obtain ⟨c0, r0, mro0⟩ := PySem.F.called_set.mro
  have made0 := PySem.F.called_set.made
  have sub0 := PySem.F.called_set.sub
  apply wpAny_call
  apply codeAny_of_tree
  show wpAny _ _ (callAny (.type "set") _) _ _ _
  refine wpAny_pure ⟨Code.quiet_builtin _ (by decide +kernel), ?_⟩
  apply codeAny_builtin PySem.F.entry_type_call
  rw [Around.under_plain (weight_type_call_type "set" [.ref l] []) rfl] <;> skip
  have nt0 := PySem.F.called_set.notType
  have cc0 := PySem.F.called_set.canCreate
  have tc0 := PySem.F.typeCall_set_1 (.ref l)
  repeat (any_goals first | assumption | (wp_step))
  have mono := code_set_new_1 (.ref l) (prog := prog) (w := w) (A := A.in1) (s := s) (E := E) (Q₁ := fun ob st => ∃ led : Bool, ob = .ref s.heap.objs.size ∧ st = { s with heap := s.heap.push { cls := .type "set", dict := none, data := .set #[] 0 (.fresh 0 0 led) } }) fun led => ⟨led, rfl, rfl⟩
  refine codeAny_mono mono fun res st1 hres => ?_
  rcases res with err | fl
  · exact hres
  cases fl with
  | ret ob =>
    obtain ⟨led, rfl, rfl⟩ := hres
    have at0 : (s.heap.push { cls := .type "set", dict := none, data := .set #[] 0 (.fresh 0 0 led) }).get? s.heap.objs.size = some { cls := .type "set", dict := none, data := .set #[] 0 (.fresh 0 0 led) } :=
      Heap.get?_push_size _ rfl
    have ty0 : Shared.TypeIs { s with heap := s.heap.push { cls := .type "set", dict := none, data := .set #[] 0 (.fresh 0 0 led) } } (.ref s.heap.objs.size) "set" :=
      ⟨_, at0, rfl⟩
    have look0 := PySem.F.called_set.init.lookup
    have bind0 := PySem.F.called_set.init.bind (.ref s.heap.objs.size)
    repeat (any_goals first | assumption | (wp_step))
    refine codeAny_mono (codeAny_call_builtin (R := wants (fun r st2 => r = .none ∧ ∃ h' tk, st2 = { s with heap := h', toks := tk } ∧ MadeOf prog w xs s h') E) PySem.F.called_set.init.plain PySem.F.entry_set_init (check_set_init_1 ty0 ?_)) fun res2 st2 hres2 => ?_
    · obtain ⟨lo, hlo, lc, ln, ld⟩ := lst
      obtain ⟨lcls, ldict, ldata, lslots⟩ := lo
      simp only at lc ld
      subst lc
      subst ld
      have hlo1 : (s.heap.push { cls := .type "set", dict := none, data := .set #[] 0 (.fresh 0 0 led) }).get? l = some { cls := .type "list", dict := ldict, data := .seq items ln, slots := lslots } :=
        Heap.get?_push_of_some _ hlo
      have s1 := PySem.F.sub_list_set
      have s2 := PySem.F.sub_list_frozenset
      have s3 : (Value.type "list" == Value.type "dict") = false := by decide
      have lst1 : (s.heap.push { cls := .type "set", dict := none, data := .set #[] 0 (.fresh 0 0 led) }).IsList l items :=
        ⟨_, hlo1, rfl, ln, rfl⟩
      unfold Builtin.«set.__init__» noKeywords Builtin.Frozenset.updateFrom
      generalize itq : pyIter = itf
      wp_walk
      subst itq
      refine wpAny_pyIter_list lst1 (wpAny_bind (wpAny_runValue ?_))
      have below : l < s.heap.objs.size := Heap.lt_size hlo
      have quiet3 : A.in1.in1.in1.handled = none := by simp [quiet]
      have sz1 : (s.heap.push { cls := .type "set", dict := none, data := .set #[] 0 (.fresh 0 0 led) }).objs.size = s.heap.objs.size + 1 := Heap.size_push ..
      have off1 : l ≠ (s.heap.push { cls := .type "set", dict := none, data := .set #[] 0 (.fresh 0 0 led) }).objs.size := by
        rw [sz1]
        exact Nat.ne_of_lt (Nat.lt_succ_of_lt below)
      have off2 : s.heap.objs.size ∉ [(s.heap.push { cls := .type "set", dict := none, data := .set #[] 0 (.fresh 0 0 led) }).objs.size, l] := by
        rw [sz1]
        simp only [List.mem_cons, List.not_mem_nil, or_false, not_or]
        exact ⟨Nat.ne_of_lt (Nat.lt_succ_self _), Nat.ne_of_gt below⟩
      have lenx : xs.length = items.size := by
        have := StrsAre.len_eq txt
        rw [Array.length_toList] at this
        omega
      have val0 : ∀ (j : Nat) (v : Value), items[j]? = some v → ∃ t, v = .str (xs.getD j Str.empty) t := fun j v hj => SS.strs_at txt j v (by rw [Array.getElem?_toList]; exact hj)
      refine fillStr ((Walks.list quiet3 _ l off1 items).toS) s.heap.objs.size off2 xs lenx (by omega) val0 (items.size - 0) 0 _ (by omega) (Nat.zero_le _) ⟨⟨_, Heap.get?_push_size _ rfl, rfl, rfl⟩, lst1.push _⟩ ?start ?stop
      case start =>
        have at1 : ((s.heap.push { cls := .type "set", dict := none, data := .set #[] 0 (.fresh 0 0 led) }).push { cls := .type "list_iterator", data := .fields #[.ref l, .int 0 0] }).get? s.heap.objs.size = some { cls := .type "set", dict := none, data := .set #[] 0 (.fresh 0 0 led) } :=
          Heap.get?_push_of_some _ at0
        exact SetOf_congr ((setObjOf_fresh (knd := PySem.strKind prog w) led).setOf at1 (by unfold scanBound; omega)) (fun _ => rfl) rfl
      case stop =>
        intro st3 mv made
        obtain ⟨hp3, gn3, dr3, tk3, os3⟩ := st3
        obtain rfl : gn3 = s.gens := mv.gens
        obtain rfl : dr3 = s.drawn := mv.drawn
        obtain rfl : os3 = s.os := mv.os
        refine wpAny_pure (wpAny_pure ⟨rfl, hp3, tk3, rfl, by rw [lenx]; exact made, fun b o hb hget => ?_⟩)
        refine mv.heap b o ?_ (Heap.get?_push_of_some _ (Heap.get?_push_of_some _ hget))
        rw [sz1]
        simp only [List.mem_cons, List.not_mem_nil, or_false, not_or]
        exact ⟨Nat.ne_of_lt hb, Nat.ne_of_lt (Nat.lt_succ_of_lt hb)⟩
    · rcases res2 with err2 | fl2
      · exact hres2
      cases fl2 with
      | ret r2 =>
        obtain ⟨rfl, h2, tk2, rfl, made2⟩ := hres2
        repeat (any_goals first | assumption | (wp_step))
        exact done _ _ made2
      | _ => exact hres2.elim
  | _ => exact hres.elim
end
end DL

namespace DL
open PySem L2 PySem.Spec PyProof.Rows
def lenSetD : D → Rs Ce
  | .list ds => (match textsOf ds with
    | some xs => if xs.length ≤ 1000 then .ok (.f (.int (dkn xs xs.length : Int))) else .no
    | none => .no)
  | _ => .no
def mLenSet (m : M D) : M Ce := fun e => (m e).bind fun p => (lenSetD p.1).bind fun c => .ok (c, p.2)
@[simp] theorem mLenSet_r (m : M D) (e : En) : mLenSet m e = (m e).bind fun p => (lenSetD p.1).bind fun c => .ok (c, p.2) := rfl
section
variable {X : Cx}
def tLenTexts (K : PySem.W.Frag) (ta : TE) : TE := fun σ H Q => ta σ H fun x H1 => ∃ l, ∃ xs : List Str, x = .ref l ∧ SqL K H1 l (xs.map V.str) ∧ xs.length ≤ 1000 ∧ Q (.int (dkn xs xs.length : Int)) H1
theorem pe_lenTexts {a : Expr} {ta : TE} {p p2 q pos : Pos} (calm : X.calm = true) (g1 : Gl X "len") (m1 : X.mg "len" = none) (g2 : Gl X "set") (m2 : X.mg "set" = none) (pa : PE X a ta) (one : starEach [a] X.env = (false, eval a X.env) :: starEach [] X.env := by rfl) :
    PE X (.Call (.Name "len" p) [.Call (.Name "set" p2) [a] [] q] [] pos) (tLenTexts X.K ta) := ⟨fun pins s σ H Q I h => by
  refine Call_ (ld_blt I g1 m1 boot_len (callWith_builtin1 (args_cons ?_ rfl) rfl rfl))
  refine Call_ (ld_blt I g2 m2 boot_set (callWith_type1 (args_cons ?_ one) one rfl))
  refine thn (pa.run pins s σ H _ I h) fun v s1 ⟨x, H1, I1, r1, q1⟩ => args_nil ?_
  obtain ⟨l, xs, rfl, hq, few, q1⟩ := q1
  cases r1
  obtain ⟨its, r, pl, _⟩ := I1.list hq
  refine set_of_texts (I1.ok.hd calm) pl.isList (by simpa using strsAre_of r) few fun h' tk ⟨made, kept⟩ => args_nil ?_
  obtain ⟨o, es, ep, t, ho, hex, hd, _, _, small, hf, hn⟩ := made
  have I2 : Inv X pins σ H1 { s1 with heap := h', toks := tk } := I1.kept fun b o e => kept b o (Heap.lt_size e) e
  have room : es.size < scanBound := small
  refine call_len_set ho hex hd hf (by rw [hn]; have := dkn_le xs xs.length; omega) ?_
  rw [hn]
  exact ⟨.int (dkn xs xs.length : Int), H1, I2.tok _, ⟨_, rfl⟩, q1⟩⟩
theorem pn_lenSet {a : Expr} {m : M D} {p p2 q pos : Pos} (calm : X.calm = true) (g1 : Gl X "len") (m1 : X.mg "len" = none) (g2 : Gl X "set") (m2 : X.mg "set" = none) (pa : PF X a m) (one : starEach [a] X.env = (false, eval a X.env) :: starEach [] X.env := by rfl) :
    PN X (.Call (.Name "len" p) [.Call (.Name "set" p2) [a] [] q] [] pos) (mLenSet m) := PEimp (pe_lenTexts calm g1 m1 g2 m2 pa one) fun σ H Q ⟨G, F, e, c, e', r, hm, q⟩ => by
  obtain ⟨d, e1, h1, hm⟩ := bind_ok2 hm
  obtain ⟨c', h2, hm⟩ := Rs.bind_eq hm
  cases hm
  refine ⟨G, F, e, d, _, r, h1, fun v F1 H1 n1 hv => ?_⟩
  cases d <;> first
    | (cases h2; done)
    | skip
  rename_i ds
  simp only [lenSetD] at h2
  split at h2
  · rename_i xs hx
    obtain ⟨hz, h2⟩ := ite_ok h2
    cases h2
    obtain ⟨l, vs, rfl, q1, q2⟩ := Dn.sq (.inl hv)
    rw [textsOf_eq hx] at q2
    rw [q2.strs] at q1
    exact ⟨l, xs, rfl, Evl.ex_l n1.r.fh q1, hz, q _ F1 H1 n1 (.inl ⟨_, rfl, .int _⟩)⟩
  · cases h2
end
end DL

namespace DL
open PySem L2 PyProof.Rows RT RZ
/-! ### x in xs, a list of texts -/
def inD : D → D → Rs Ce
  | .str s, .list ds => (match textsOf ds with
    | some ys => .ok (.f (.bool (ys.any fun y => y == s)))
    | none => .no)
  | _, _ => .no
def notinD : D → D → Rs Ce
  | .str s, .list ds => (match textsOf ds with
    | some ys => .ok (.f (.bool (!ys.any fun y => y == s)))
    | none => .no)
  | _, _ => .no
theorem texts_flat (ys : List Str) : (ys.map V.str).all flatV = true := List.all_eq_true.mpr fun v hv => by
  obtain ⟨y, _, rfl⟩ := List.mem_map.mp hv
  rfl
theorem inV_texts (s : Str) : ∀ ys : List Str, inV (.str s) (ys.map V.str) = ys.any fun y => y == s
  | [] => rfl
  | y :: ys => by
    have := inV_texts s ys
    unfold inV at *
    rw [List.map_cons, List.any_cons, List.any_cons, this]
    rfl
theorem op_inA {X : Cx} (_ : X.A.units + 65 < cLine) : OpR X (compareOp .In) (rIn X.K false) := op_in_seq
theorem op_notinA {X : Cx} (_ : X.A.units + 65 < cLine) : OpR X (compareOp .NotIn) (rIn X.K true) := op_notIn_seq
theorem snd_in {K : PySem.W.Frag} : Snd2 K (rIn K false) inD := fun F H x y dx dy c Q fh hx hy hg q => by
  unfold inD at hg
  split at hg
  · rename_i s ds
    split at hg
    · rename_i ys h
      cases hg
      rw [hx.str]
      obtain ⟨a, xs, rfl, g1, g2⟩ := hy.list fh
      rw [textsOf_eq h] at g2
      rw [g2.strs] at g1
      refine ⟨a, ys.map V.str, rfl, .inl (.inl (.inl g1)), rfl, texts_flat ys, ?_⟩
      rw [inV_texts]
      exact ret1 fh (.bl _) rfl q
    · cases hg
  · cases hg
theorem snd_notin {K : PySem.W.Frag} : Snd2 K (rIn K true) notinD := fun F H x y dx dy c Q fh hx hy hg q => by
  unfold notinD at hg
  split at hg
  · rename_i s ds
    split at hg
    · rename_i ys h
      cases hg
      rw [hx.str]
      obtain ⟨a, xs, rfl, g1, g2⟩ := hy.list fh
      rw [textsOf_eq h] at g2
      rw [g2.strs] at g1
      refine ⟨a, ys.map V.str, rfl, .inl (.inl (.inl g1)), rfl, texts_flat ys, ?_⟩
      rw [inV_texts]
      exact ret1 fh (.bl _) rfl q
    · cases hg
  · cases hg
@[simp] theorem inD_l (s : Str) (ys : List Str) : inD (.str s) (.list (ys.map .str)) = .ok (.f (.bool (ys.any fun y => y == s))) := by
  have : textsOf (ys.map .str) = some ys := by
    induction ys with
    | nil => rfl
    | cons y ys ih => show (textsOf (ys.map .str)).map _ = _; rw [ih]; rfl
  simp only [inD, this]
end DL

namespace DL
open PySem L2 PySem.Spec PyProof.Rows
/-! ### sorted(set(ints)), up to 4000 of them -/
section
variable {prog : Program} {w : World} {A : Around} {E : Value → Shared → Prop} {s : Shared}
set_option maxHeartbeats 6000000 in
theorem set_of_ints {l : Addr} {items : Array Value} (ns : List Int) {Q : Value → Shared → Prop} (quiet : A.handled = none) (lst : s.heap.IsList l items) (num : PyProof.Rows.IntsAre items.toList ns) (few : ns.length + 1 < scanBound)
    (done : ∀ (h' : Heap) (tk c : Nat), SetR w h' s.heap.objs.size (fun j => decide (j ∈ ns)) c → c ≤ ns.length → (∀ b o, s.heap.get? b = some o → h'.get? b = some o) → Q (.ref s.heap.objs.size) { s with heap := h', toks := tk }) :
    wpAny (model prog w) A (call (.type "set") [.ref l]) Q E s := by
  have cnt : items.size = ns.length := by
    have := IntsAre.length num
    rw [Array.length_toList] at this
    exact this
  obtain ⟨c0, r0, mro0⟩ := PySem.F.called_set.mro
  have made0 := PySem.F.called_set.made
  have sub0 := PySem.F.called_set.sub
  apply wpAny_call
  apply codeAny_of_tree
  show wpAny _ _ (callAny (.type "set") _) _ _ _
  refine wpAny_pure ⟨Code.quiet_builtin _ (by decide +kernel), ?_⟩
  apply codeAny_builtin PySem.F.entry_type_call
  rw [Around.under_plain (weight_type_call_type "set" [.ref l] []) rfl] <;> skip
  have nt0 := PySem.F.called_set.notType
  have cc0 := PySem.F.called_set.canCreate
  have tc0 := PySem.F.typeCall_set_1 (.ref l)
  repeat (any_goals first | assumption | (wp_step))
  have mono := code_set_led1 (.ref l) (P := prog) (w := w) (A := A.in1) (s := s) (E := E) (Q₁ := fun ob st => ob = .ref s.heap.objs.size ∧ st = { s with heap := s.heap.push { cls := .type "set", dict := none, data := .set #[] 0 (.fresh 0 0 (!w.params.followText "set-order")) } }) ⟨rfl, rfl⟩
  refine codeAny_mono mono fun res st1 hres => ?_
  rcases res with err | fl
  · exact hres
  cases fl with
  | ret ob =>
    obtain ⟨rfl, rfl⟩ := hres
    have at0 : (s.heap.push { cls := .type "set", dict := none, data := .set #[] 0 (.fresh 0 0 (!w.params.followText "set-order")) }).get? s.heap.objs.size = some { cls := .type "set", dict := none, data := .set #[] 0 (.fresh 0 0 (!w.params.followText "set-order")) } :=
      Heap.get?_push_size _ rfl
    have ty0 : Shared.TypeIs { s with heap := s.heap.push { cls := .type "set", dict := none, data := .set #[] 0 (.fresh 0 0 (!w.params.followText "set-order")) } } (.ref s.heap.objs.size) "set" :=
      ⟨_, at0, rfl⟩
    have look0 := PySem.F.called_set.init.lookup
    have bind0 := PySem.F.called_set.init.bind (.ref s.heap.objs.size)
    repeat (any_goals first | assumption | (wp_step))
    refine codeAny_mono (codeAny_call_builtin (R := wants (fun r st2 => r = .none ∧ ∃ h' tk c, st2 = { s with heap := h', toks := tk } ∧ SetR w h' s.heap.objs.size (fun j => decide (j ∈ ns)) c ∧ c ≤ ns.length ∧ (∀ b o, s.heap.get? b = some o → h'.get? b = some o)) E) PySem.F.called_set.init.plain PySem.F.entry_set_init (check_set_init_1 ty0 ?_)) fun res2 st2 hres2 => ?_
    · obtain ⟨lo, hlo, lc, ln, ld⟩ := lst
      obtain ⟨lcls, ldict, ldata, lslots⟩ := lo
      simp only at lc ld
      subst lc
      subst ld
      have hlo1 : (s.heap.push { cls := .type "set", dict := none, data := .set #[] 0 (.fresh 0 0 (!w.params.followText "set-order")) }).get? l = some { cls := .type "list", dict := ldict, data := .seq items ln, slots := lslots } :=
        Heap.get?_push_of_some _ hlo
      have s1 := PySem.F.sub_list_set
      have s2 := PySem.F.sub_list_frozenset
      have s3 : (Value.type "list" == Value.type "dict") = false := by decide
      have lst1 : (s.heap.push { cls := .type "set", dict := none, data := .set #[] 0 (.fresh 0 0 (!w.params.followText "set-order")) }).IsList l items :=
        ⟨_, hlo1, rfl, ln, rfl⟩
      unfold Builtin.«set.__init__» noKeywords Builtin.Frozenset.updateFrom
      generalize itq : pyIter = itf
      wp_walk
      subst itq
      refine wpAny_pyIter_list lst1 (wpAny_bind (wpAny_runValue ?_))
      have below : l < s.heap.objs.size := Heap.lt_size hlo
      have quiet3 : A.in1.in1.in1.handled = none := by simp [quiet]
      have sz1 : (s.heap.push { cls := .type "set", dict := none, data := .set #[] 0 (.fresh 0 0 (!w.params.followText "set-order")) }).objs.size = s.heap.objs.size + 1 := Heap.size_push ..
      have off1 : l ≠ (s.heap.push { cls := .type "set", dict := none, data := .set #[] 0 (.fresh 0 0 (!w.params.followText "set-order")) }).objs.size := by
        rw [sz1]
        exact Nat.ne_of_lt (Nat.lt_succ_of_lt below)
      have off2 : s.heap.objs.size ∉ [(s.heap.push { cls := .type "set", dict := none, data := .set #[] 0 (.fresh 0 0 (!w.params.followText "set-order")) }).objs.size, l] := by
        rw [sz1]
        simp only [List.mem_cons, List.not_mem_nil, or_false, not_or]
        exact ⟨Nat.ne_of_lt (Nat.lt_succ_self _), Nat.ne_of_gt below⟩
      have val0 : ∀ (j : Nat) (v : Value), items[j]? = some v → ∃ k t, ns[j]? = some k ∧ v = .int k t := fun j v hj => by
        have hjl : j < ns.length := by rw [← cnt]; exact (Array.getElem?_eq_some_iff.mp hj).1
        obtain ⟨t, e⟩ := PyProof.Rows.IntsAre.int_at num j v (by rw [Array.getElem?_toList]; exact hj)
        refine ⟨ns[j], t, List.getElem?_eq_getElem hjl, ?_⟩
        rw [e, List.getD_eq_getElem?_getD, List.getElem?_eq_getElem hjl] <;> rfl
      refine L2.set_update_ints ((Walks.list quiet3 _ l off1 items).toS) s.heap.objs.size off2 ns cnt few val0 (items.size - 0) 0 _ (by omega) (Nat.zero_le _) ⟨⟨_, Heap.get?_push_size _ rfl, rfl, rfl⟩, lst1.push _⟩ ?start ?stop
      case start =>
        have at1 : ((s.heap.push { cls := .type "set", dict := none, data := .set #[] 0 (.fresh 0 0 (!w.params.followText "set-order")) }).push { cls := .type "list_iterator", data := .fields #[.ref l, .int 0 0] }).get? s.heap.objs.size = some { cls := .type "set", dict := none, data := .set #[] 0 (.fresh 0 0 (!w.params.followText "set-order")) } :=
          Heap.get?_push_of_some _ at0
        exact ⟨0, Nat.le_refl 0, setR_new_at at1⟩
      case stop =>
        intro st3 c3 mv le3 made
        obtain ⟨hp3, gn3, dr3, tk3, os3⟩ := st3
        obtain rfl : gn3 = s.gens := mv.gens
        obtain rfl : dr3 = s.drawn := mv.drawn
        obtain rfl : os3 = s.os := mv.os
        refine wpAny_pure (wpAny_pure ⟨rfl, hp3, tk3, c3, rfl, made, by rw [cnt] at le3; exact le3, fun b o hget => ?_⟩)
        have hb : b < s.heap.objs.size := Heap.lt_size hget
        refine mv.heap b o ?_ (Heap.get?_push_of_some _ (Heap.get?_push_of_some _ hget))
        rw [sz1]
        simp only [List.mem_cons, List.not_mem_nil, or_false, not_or]
        exact ⟨Nat.ne_of_lt hb, Nat.ne_of_lt (Nat.lt_succ_of_lt hb)⟩
    · rcases res2 with err2 | fl2
      · exact hres2
      cases fl2 with
      | ret r2 =>
        obtain ⟨rfl, h2, tk2, c2, rfl, made2, le2, kept2⟩ := hres2
        repeat (any_goals first | assumption | (wp_step))
        exact done _ _ _ made2 le2 kept2
      | _ => exact hres2.elim
  | _ => exact hres.elim
theorem sorted_of_set {a : Addr} {T : Int → Bool} {n : Nat} {Q : Value → Shared → Prop} (R : SetR w s.heap a T n) (quiet : A.handled = none)
    (done : ∀ (s' : Shared) (p : Addr) (out : Array Value) (c : Nat) (ns : List Int), (∀ b o, s.heap.get? b = some o → s'.heap.get? b = some o) → s'.gens = s.gens → s'.os = s.os → s.heap.objs.size ≤ p →
      s'.heap.get? p = some (seqObj "list" out c) → IntsAre out.toList ns → ns.Pairwise (· < ·) → (∀ k, k ∈ ns ↔ T k = true) → ns.length = n → Q (.ref p) s') :
    wpAny (model prog w) A (call (.builtin "sorted") [.ref a]) Q E s := by
  obtain ⟨ob, es, ep, tb, hob, hex, hdt, good, dist, mem, few, fit, num, ris, led⟩ := R
  refine Calls.call_function_entry kind_sorted plain_sorted entry_sorted (args_sorted1 _) (?_ : wpAny _ _ (Builtin.«sorted» _) _ _ _)
  unfold Builtin.«sorted»
  refine wpAny_bind (m := checkCount "sorted" 1 1 _) (wpAny_pure (wpAny_bind (collect_set (A := A.in1) quiet ⟨ob, hob, hex.1, hdt⟩ fit few ris led fun s1 vs keep1 grow1 gens1 os1 perm1 => ?_)))
  have lenv : vs.length = n := by rw [perm1.length_eq, List.length_map, Array.length_toList]; exact num
  have lenz : vs.length ≤ sizeLine := by rw [perm1.length_eq, List.length_map, Array.length_toList, sizeLine_eq]; have : es.size < 4096 := few; omega
  have ints1 : IntsAre vs (vs.map Builtin.Re.reRawOf) := ints_of vs fun v hv => by
    obtain ⟨e, he, q⟩ := List.mem_map.mp (perm1.mem_iff.mp hv)
    obtain ⟨k, tk, h1, _⟩ := good e he
    exact ⟨k, tk, by rw [← q]; exact h1⟩
  have permk : (vs.map Builtin.Re.reRawOf).Perm (es.toList.map keyOf) := by
    have := perm1.map Builtin.Re.reRawOf
    rw [List.map_map] at this
    exact this
  refine wpAny_bind (wpAny_newList ?_ lenz)
  have atL : (s1.heap.push (seqObj "list" vs.toArray 0)).get? s1.heap.objs.size = some (seqObj "list" vs.toArray 0) := Heap.get?_push_size _ rfl
  refine wpAny_bind (wpAny_holding (wpAny_call_entry slot_list_sort ⟨_, atL, rfl⟩ entry_list_sort (SrtO.list_sort_ord SrtO.swo_int atL lenz (fun h2 => SrtO.ints_sortable ints1 h2) fun out h1 h2 => ⟨_, rfl, ?_⟩) (args_list_sort _)))
  obtain ⟨k1, k2, k3⟩ := SrtO.ints_out ints1 h1 h2
  obtain ⟨c, hc⟩ := sortedHeap_at (vs := vs) (out := out.toArray) atL
  have pn := k2.trans permk
  refine wpAny_pure ⟨_, rfl, done _ s1.heap.objs.size out.toArray c _ (fun b u e => ?_) gens1 os1 grow1 hc (by simpa using k1) (lt_of_le_nodup _ k3 (pn.nodup_iff.mpr dist)) (fun k => by rw [pn.mem_iff, ← mem k]) ?_⟩
  · have q := keep1 b u e
    have lt1 := Heap.lt_size q
    show (sortedHeap (s1.heap.push (seqObj "list" vs.toArray 0)) s1.heap.objs.size vs out.toArray).get? b = some u
    rw [sortedHeap_old (Nat.ne_of_lt lt1) (by rw [size_push']; exact Nat.lt_succ_of_lt lt1)]
    exact Heap.get?_push_of_some _ q
  · rw [pn.length_eq, List.length_map, Array.length_toList]; exact num
end
/-- ascending, each once -/
def insU (k : Int) : List Int → List Int
  | [] => [k]
  | x :: xs => if k < x then k :: x :: xs else if k = x then x :: xs else x :: insU k xs
def srtU : List Int → List Int
  | [] => []
  | k :: ks => insU k (srtU ks)
theorem mem_insU {k j : Int} : ∀ {xs : List Int}, j ∈ insU k xs ↔ j = k ∨ j ∈ xs
  | [] => by simp [insU]
  | x :: xs => by
    unfold insU
    split
    · simp
    · split
      · rename_i h
        subst h
        simp
      · rw [List.mem_cons, mem_insU, List.mem_cons]
        constructor
        · rintro (h | h | h)
          · exact .inr (.inl h)
          · exact .inl h
          · exact .inr (.inr h)
        · rintro (h | h | h)
          · exact .inr (.inl h)
          · exact .inl h
          · exact .inr (.inr h)
theorem insU_pw {k : Int} : ∀ {xs : List Int}, xs.Pairwise (· < ·) → (insU k xs).Pairwise (· < ·)
  | [], _ => by simp [insU]
  | x :: xs, h => by
    obtain ⟨h1, h2⟩ := List.pairwise_cons.mp h
    unfold insU
    split
    · rename_i q
      refine List.pairwise_cons.mpr ⟨fun y hy => ?_, h⟩
      rcases List.mem_cons.mp hy with rfl | hy
      · exact q
      · have := h1 y hy; omega
    · split
      · exact h
      · refine List.pairwise_cons.mpr ⟨fun y hy => ?_, insU_pw h2⟩
        rcases mem_insU.mp hy with rfl | hy
        · omega
        · exact h1 y hy
theorem srtU_pw : ∀ ks : List Int, (srtU ks).Pairwise (· < ·)
  | [] => .nil
  | k :: ks => insU_pw (srtU_pw ks)
theorem mem_srtU {j : Int} : ∀ {ks : List Int}, j ∈ srtU ks ↔ j ∈ ks
  | [] => Iff.rfl
  | k :: ks => by
    show j ∈ insU k (srtU ks) ↔ j ∈ k :: ks
    rw [mem_insU, mem_srtU, List.mem_cons]
theorem pw_uniq : ∀ {xs ys : List Int}, xs.Pairwise (· < ·) → ys.Pairwise (· < ·) → (∀ k, k ∈ xs ↔ k ∈ ys) → xs = ys
  | [], [], _, _, _ => rfl
  | [], y :: ys, _, _, h => absurd ((h y).mpr List.mem_cons_self) (by simp)
  | x :: xs, [], _, _, h => absurd ((h x).mp List.mem_cons_self) (by simp)
  | x :: xs, y :: ys, hx, hy, h => by
    obtain ⟨x1, x2⟩ := List.pairwise_cons.mp hx
    obtain ⟨y1, y2⟩ := List.pairwise_cons.mp hy
    have e : x = y := by
      have a := (h x).mp List.mem_cons_self
      have b := (h y).mpr List.mem_cons_self
      rcases List.mem_cons.mp a with a | a
      · exact a
      · rcases List.mem_cons.mp b with b | b
        · exact b.symm
        · have := y1 x a; have := x1 y b; omega
    subst e
    rw [pw_uniq x2 y2 fun k => ⟨fun m => ?_, fun m => ?_⟩]
    · rcases List.mem_cons.mp ((h k).mp (List.mem_cons_of_mem _ m)) with q | q
      · have := x1 k m; omega
      · exact q
    · rcases List.mem_cons.mp ((h k).mpr (List.mem_cons_of_mem _ m)) with q | q
      · have := y1 k m; omega
      · exact q
/-- sorted(set(xs)) -/
def sortSetD : D → Rs Ce
  | .list ds => (match intsOf ds with
    | some is => if is.length ≤ 4000 then .ok (.l false ((srtU is).map .int)) else .no
    | none => .no)
  | _ => .no
def mSortSet (m : M D) : M Ce := fun e => (m e).bind fun p => (sortSetD p.1).bind fun c => .ok (c, p.2)
@[simp] theorem mSortSet_r (m : M D) (e : En) : mSortSet m e = (m e).bind fun p => (sortSetD p.1).bind fun c => .ok (c, p.2) := rfl
theorem sortSetD_i {is : List Int} (h : is.length ≤ 4000) : sortSetD (.list (is.map .int)) = .ok (.l false ((srtU is).map .int)) := by
  show (match intsOf (is.map .int) with | some is => if is.length ≤ 4000 then Rs.ok (Ce.l false ((srtU is).map .int)) else .no | none => .no) = _
  rw [intsOf_ints]
  exact if_pos h
section
variable {X : Cx}
def tSortSet (K : PySem.W.Frag) (ta : TE) : TE := fun σ H Q => ta σ H fun x H1 => ∃ l, ∃ xs : List Int, x = .ref l ∧ SqL K H1 l (xs.map V.int) ∧ xs.length ≤ 4000 ∧ ∀ p, H1 p = none → Q (.ref p) (upd H1 p (.lst ((srtU xs).map V.int)))
theorem pe_sortSet {a : Expr} {ta : TE} {p p2 q pos : Pos} (calm : X.calm = true) (g1 : Gl X "sorted") (m1 : X.mg "sorted" = none) (g2 : Gl X "set") (m2 : X.mg "set" = none) (pa : PE X a ta) (one : starEach [a] X.env = (false, eval a X.env) :: starEach [] X.env := by rfl) :
    PE X (.Call (.Name "sorted" p) [.Call (.Name "set" p2) [a] [] q] [] pos) (tSortSet X.K ta) := ⟨fun pins s σ H Q I h => by
  refine Call_ (ld_blt I g1 m1 bt_sorted (callWith_builtin1 (args_cons ?_ rfl) rfl rfl))
  refine Call_ (ld_blt I g2 m2 boot_set (callWith_type1 (args_cons ?_ one) one rfl))
  refine thn (pa.run pins s σ H _ I h) fun v s1 ⟨x, H1, I1, r1, q1⟩ => args_nil ?_
  obtain ⟨l, xs, rfl, hq, few, q1⟩ := q1
  cases r1
  obtain ⟨its, r, pl, _⟩ := I1.list hq
  refine set_of_ints xs (I1.ok.hd calm) pl.isList (by simpa using r.ints) (by unfold scanBound; omega) fun h' tk c made le kept => args_nil ?_
  have I2 : Inv X pins σ H1 { s1 with heap := h', toks := tk } := I1.kept fun b o e => kept b o e
  refine sorted_of_set made (I2.ok.hd calm) fun s' p out c' ns k g o hp hg hi hs hm hl => ?_
  have en : ns = srtU xs := pw_uniq hs (srtU_pw xs) fun j => by rw [hm j, mem_srtU, decide_eq_true_eq]
  subst en
  have hlen : ((srtU xs).map V.int).length ≤ sizeLine := by rw [List.length_map, hl, sizeLine_eq]; omega
  have hn : H1 p = none := I2.hok.fresh hp
  have J : Inv X pins σ (upd H1 p (.lst ((srtU xs).map V.int))) { ({ s1 with heap := h', toks := tk } : Shared) with heap := s'.heap, gens := s'.gens, drawn := s'.drawn, toks := s'.toks } :=
    I2.call (ch := []) (Un.laid k hp hn) (I2.hok.laid k hp ⟨hlen, out.toList, c', vals_of_ints hi, hg⟩) (by rw [g]; exact I2.bare) (fun _ z => nomatch z)
  have e : s' = { s1 with heap := s'.heap, gens := s'.gens, drawn := s'.drawn, toks := s'.toks } := by
    cases s'
    cases s1
    cases o
    rfl
  rw [e]
  exact ⟨.ref p, _, J, rfl, q1 p hn⟩⟩
theorem pn_sortSet {a : Expr} {m : M D} {p p2 q pos : Pos} (calm : X.calm = true) (g1 : Gl X "sorted") (m1 : X.mg "sorted" = none) (g2 : Gl X "set") (m2 : X.mg "set" = none) (pa : PF X a m) (one : starEach [a] X.env = (false, eval a X.env) :: starEach [] X.env := by rfl) :
    PN X (.Call (.Name "sorted" p) [.Call (.Name "set" p2) [a] [] q] [] pos) (mSortSet m) := PEimp (pe_sortSet calm g1 m1 g2 m2 pa one) fun σ H Q ⟨G, F, e, c, e', r, hm, q⟩ => by
  obtain ⟨d, e1, h1, hm⟩ := bind_ok2 hm
  obtain ⟨c', h2, hm⟩ := Rs.bind_eq hm
  cases hm
  refine ⟨G, F, e, d, _, r, h1, fun v F1 H1 n1 hv => ?_⟩
  cases d <;> first
    | (cases h2; done)
    | skip
  rename_i ds
  simp only [sortSetD] at h2
  split at h2
  · rename_i xs hx
    obtain ⟨hz, h2⟩ := ite_ok h2
    cases h2
    obtain ⟨l, vs, rfl, q1, q2⟩ := Dn.sq (.inl hv)
    rw [intsOf_eq hx] at q2
    rw [q2.ints] at q1
    refine ⟨l, xs, rfl, Evl.ex_l n1.r.fh q1, hz, fun p hp => ?_⟩
    have go : Go F1 H1 F1 (upd H1 p (.lst ((srtU xs).map V.int))) noA := Go.newO n1.r.fh hp
    exact q _ _ _ (n1.trans (n1.r.step go)) (.inr ⟨rfl, p, _, _, rfl, n1.go.old r.fh hp, ex_none n1.r.fh hp, upd_same, rfl, dnA_ints _⟩)
  · cases h2
end
end DL

namespace DL
open PySem L2 PySem.Spec PyProof.Rows
/-! ### sorted(d.items()), keys and values ints -/
def insP (p : Int × Int) : List (Int × Int) → List (Int × Int)
  | [] => [p]
  | x :: xs => if SrtO.lexB x p = true then x :: insP p xs else p :: x :: xs
def srtP : List (Int × Int) → List (Int × Int)
  | [] => []
  | p :: ps => insP p (srtP ps)
theorem insP_perm (p : Int × Int) : ∀ xs, (insP p xs).Perm (p :: xs)
  | [] => .refl _
  | x :: xs => by
    unfold insP
    split
    · exact ((insP_perm p xs).cons x).trans (.swap p x xs)
    · exact .refl _
theorem srtP_perm : ∀ ps, (srtP ps).Perm ps
  | [] => .refl _
  | p :: ps => (insP_perm p (srtP ps)).trans ((srtP_perm ps).cons p)
abbrev leP (p q : Int × Int) : Prop := SrtO.lexB q p = false
theorem leP_of {p q : Int × Int} (h : SrtO.lexB p q = true) : leP p q := by
  have := SrtO.lexB_iff.mp h
  refine SrtO.lexB_no.mpr ?_
  omega
theorem leP_tr {p q r : Int × Int} (h : leP p q) (h2 : leP q r) : leP p r := by
  have := SrtO.lexB_no.mp h
  have := SrtO.lexB_no.mp h2
  refine SrtO.lexB_no.mpr ?_
  omega
theorem leP_anti {p q : Int × Int} (h : leP p q) (h2 : leP q p) : p = q := by
  have := SrtO.lexB_no.mp h
  have := SrtO.lexB_no.mp h2
  refine Prod.ext ?_ ?_ <;> omega
theorem insP_pw (p : Int × Int) : ∀ {xs}, xs.Pairwise leP → (insP p xs).Pairwise leP
  | [], _ => by simp [insP]
  | x :: xs, h => by
    obtain ⟨h1, h2⟩ := List.pairwise_cons.mp h
    unfold insP
    split
    · rename_i q
      refine List.pairwise_cons.mpr ⟨fun y hy => ?_, insP_pw p h2⟩
      rcases List.mem_cons.mp ((insP_perm p xs).mem_iff.mp hy) with rfl | hy
      · exact leP_of q
      · exact h1 y hy
    · rename_i q
      have hp : leP p x := by simpa using q
      refine List.pairwise_cons.mpr ⟨fun y hy => ?_, h⟩
      rcases List.mem_cons.mp hy with rfl | hy
      · exact hp
      · exact leP_tr hp (h1 y hy)
theorem srtP_pw : ∀ ps, (srtP ps).Pairwise leP
  | [] => .nil
  | p :: ps => insP_pw p (srtP_pw ps)
theorem leP_uniq : ∀ {xs ys : List (Int × Int)}, xs.Pairwise leP → ys.Pairwise leP → xs.Perm ys → xs = ys
  | [], ys, _, _, h => by rw [List.nil_perm.mp h]
  | x :: xs, [], _, _, h => by cases List.perm_nil.mp h
  | x :: xs, y :: ys, hx, hy, h => by
    obtain ⟨x1, x2⟩ := List.pairwise_cons.mp hx
    obtain ⟨y1, y2⟩ := List.pairwise_cons.mp hy
    have e : x = y := by
      rcases List.mem_cons.mp (h.mem_iff.mp List.mem_cons_self) with a | a
      · exact a
      · rcases List.mem_cons.mp (h.mem_iff.mpr (show y ∈ y :: ys from List.mem_cons_self)) with b | b
        · exact b.symm
        · exact leP_anti (x1 y b) (y1 x a)
    subst e
    rw [leP_uniq x2 y2 (List.perm_cons x |>.mp h)]
/-- tuples laid, one by one -/
inductive Lays : Hp → List (Addr × List V) → Hp → Prop
  | nil {H : Hp} : Lays H [] H
  | cons {H H' : Hp} {a : Addr} {vs : List V} {L : List (Addr × List V)} : H a = none → Lays (upd H a (.tup vs)) L H' → Lays H ((a, vs) :: L) H'
theorem lays_go : ∀ {L : List (Addr × List V)} {H H2 F : Hp}, Lays H L H2 → Ex F H → ∃ F2, Go F H F2 H2 noA ∧ ∀ z ∈ L, F2 z.1 = some (.tup z.2)
  | [], H, _, F, .nil, fh => ⟨F, Go.refl fh, fun _ h => nomatch h⟩
  | (a, vs) :: L, H, H2, F, .cons hn hl, fh => by
    have go : Go F H (upd F a (.tup vs)) (upd H a (.tup vs)) noA := Go.newF fh hn
    obtain ⟨F2, g2, h2⟩ := lays_go hl go.fh
    refine ⟨F2, go.trans g2, fun z hz => ?_⟩
    rcases List.mem_cons.mp hz with rfl | hz
    · exact g2.ff _ _ upd_same
    · exact h2 z hz
section
variable {X : Cx}
theorem takeL {pins : List (Addr × Obj)} {σ : L2.St} {H0 : Hp} {s : Shared} {h' : Heap} {tk : Nat} (I0 : Inv X pins σ H0 s) : ∀ (L : List (Addr × List V)) (H1 : Hp), Inv X pins σ H1 { s with heap := h', toks := tk } → (L.map (·.1)).Nodup →
    (∀ z ∈ L, s.heap.objs.size ≤ z.1 ∧ H1 z.1 = none ∧ ∀ H2, ObjOk X.prog X.w H2 h' z.1 (.tup z.2)) → ∃ H2, Inv X pins σ H2 { s with heap := h', toks := tk } ∧ Lays H1 L H2 ∧ ∀ b, b ∉ L.map (·.1) → H2 b = H1 b
  | [], H1, I1, _, _ => ⟨H1, I1, .nil, fun _ _ => rfl⟩
  | (a, vs) :: L, H1, I1, dist, each => by
    obtain ⟨above, free, good⟩ := each (a, vs) (List.mem_cons_self ..)
    have I2 : Inv X pins σ (upd H1 a (.tup vs)) { s with heap := h', toks := tk } := I1.take (h' := h') (t' := tk) (fun b ob _ e => e) (I0.fpOk above free) (good _)
    obtain ⟨d1, d2⟩ := List.nodup_cons.mp dist
    obtain ⟨H2, I3, lay, same⟩ := takeL I0 L (upd H1 a (.tup vs)) I2 d2 fun z hz => by
      obtain ⟨q1, q2, q3⟩ := each z (List.mem_cons_of_mem _ hz)
      exact ⟨q1, by rw [upd_ne (fun e => d1 (by rw [← show z.1 = a from e]; exact List.mem_map.mpr ⟨z, hz, rfl⟩))]; exact q2, q3⟩
    refine ⟨H2, I3, .cons free lay, fun b hb => ?_⟩
    rw [same b (fun m => hb (List.mem_cons_of_mem _ m)), upd_ne (fun e => hb (by rw [e]; exact List.mem_cons_self ..))]
/-- the pair at an address -/
def pairAt (h : Heap) : Value → Int × Int
  | .ref a => (match h.get? a with
    | some o => (match o.data with
      | .seq ⟨[.int x _, .int y _]⟩ _ => (x, y)
      | _ => (0, 0))
    | none => (0, 0))
  | _ => (0, 0)
theorem pairAt_eq {h : Heap} {v : Value} {x y : Int} (p : Srt.IsPair h v x y) : pairAt h v = (x, y) := by
  obtain ⟨a, o, t, u, n, rfl, ho, hc, hd⟩ := p
  simp [pairAt, ho, hd]
theorem ents {prog : Program} {w : World} : ∀ {es : List DictEntry} {vs : List (Key × Value)} {ps : List (Int × Int)}, Pairs (mixKind prog w) es vs → KV (ps.map fun p => ((Sum.inl p.1 : Key), V.int p.2)) vs →
    es.length = ps.length ∧ ∀ (j : Nat) (e : DictEntry), es[j]? = some e → ∃ p t u, ps[j]? = some p ∧ e.key = .int p.1 t ∧ e.val = .int p.2 u
  | [], [], [], .nil, .nil => ⟨rfl, fun j e h => by simp at h⟩
  | e0 :: es, kv :: vs, p :: ps, .cons k1 k2 k3, .cons q1 q2 => by
    obtain ⟨l, ih⟩ := ents k3 q2
    refine ⟨by rw [List.length_cons, List.length_cons, l], fun j e h => ?_⟩
    cases j with
    | zero =>
      obtain rfl : e0 = e := by simpa using h
      obtain ⟨q3, q4⟩ := q1
      obtain ⟨u, q4⟩ := q4
      rw [← show (Sum.inl p.1 : Key) = kv.1 from q3] at k1
      rcases keyIs_shape (show keyIs (Sum.inl p.1) e0.key = true from k1) with ⟨i, t, z1, z2⟩ | ⟨x, t, z1, z2⟩
      · cases z1
        exact ⟨p, t, u, by simp, z2, k2.trans q4⟩
      · cases z1
    | succ j =>
      obtain ⟨p', t, u, z1, z2, z3⟩ := ih j e (by simpa using h)
      exact ⟨p', t, u, by simpa using z1, z2, z3⟩
  | [], [], p :: ps, .nil, q => by cases q
  | e0 :: es, kv :: vs, [], .cons _ _ _, q => by cases q
abbrev pV (p : Int × Int) : List V := [.int p.1, .int p.2]
def tSortItems (td : TE) : TE := fun σ H Q => td σ H fun x H1 => ∃ (a : Addr) (ps : List (Int × Int)), x = .ref a ∧ H1 a = some (.dK (ps.map fun p => ((Sum.inl p.1 : Key), V.int p.2))) ∧ ps.length ≤ 4000 ∧
  ∀ (H2 : Hp) (l : Addr) (bs : List Addr), bs.length = ps.length → Lays H1 (bs.zip ((srtP ps).map pV)) H2 → H2 l = none → Q (.ref l) (upd H2 l (.lst (bs.map V.ref)))
theorem pe_sortItems {e : Expr} {td : TE} {p apos cpos pos : Pos} (calm : X.calm = true) (g1 : Gl X "sorted") (m1 : X.mg "sorted" = none) (pd : PE X e td) (hbase : attributeBase e "items" X.env (eval e X.env) = eval e X.env := by rfl) (hline : (apos.endLine == cpos.line) = true := by rfl)
    (one : starEach [.Call (.Attribute e "items" apos) [] [] cpos] X.env = (false, eval (.Call (.Attribute e "items" apos) [] [] cpos) X.env) :: starEach [] X.env := by rfl) :
    PE X (.Call (.Name "sorted" p) [.Call (.Attribute e "items" apos) [] [] cpos] [] pos) (tSortItems td) := ⟨fun pins s σ H Q I h => by
  refine Call_ (ld_blt I g1 m1 bt_sorted (callWith_builtin1 (args_cons ?_ one) one rfl))
  refine wpAny_Call_method (T := "dict") (id := "dict.items") hbase rfl hline F.plainAttrs_dict F.slot_dict_items F.type_dict_items (thn (pd.run pins s σ H _ I h) fun u s1 ⟨x, H1, I1, rx, a, ps, ex, hd, few, q⟩ => ?_)
  subst ex
  obtain rfl : u = Value.ref a := rx
  obtain ⟨zz, ns, vs, kv, ob, es, ep, ho, hx, hdt, hks, hpr, hdist⟩ := dk_of I1.hok hd
  obtain ⟨elen, eat⟩ := ents hpr kv
  rw [Array.length_toList] at elen
  refine ⟨⟨ob, ho, hx.1⟩, fun b qb => ?_, ?_⟩
  · cases qb
    exact ⟨ob, ho, hx.2.1⟩
  show wpAny _ _ (callWith cpos (.builtin "dict.items") [.ref a] [] []) _ X.xe s1
  refine method_meetsIn F.slot_dict_items F.entry_dict_items rfl (PySem.evalArgs_none ⟨rfl, ⟨ob, ho, hx.1⟩, F.args_dict_items_1 _, _, DT.meetsItems (es := es) (ep := ep) ns, ⟨⟨ob, ho, hx, hdt⟩, ?_⟩⟩)
  refine args_nil ?_
  have view : (s1.heap.push { cls := .type "dict_items", data := .fields #[.ref a] }).IsItemsView s1.heap.objs.size a := ⟨_, Heap.get?_push_size _ rfl, rfl, rfl⟩
  have raw : DT.Raw (s1.heap.push { cls := .type "dict_items", data := .fields #[.ref a] }) a es ep := ⟨ob, Heap.get?_push_of_some _ ho, hx, hdt⟩
  refine DT.sortedI (s := { s1 with heap := s1.heap.push { cls := .type "dict_items", data := .fields #[.ref a] } }) (es := es) (ep := ep) (I1.ok.hd calm) view raw (by rw [sizeLine_eq]; omega) fun h' tk as kept1 grow1 len1 made => ?_
  dsimp only at kept1 grow1 made ⊢
  have kept0 : ∀ b o, s1.heap.get? b = some o → h'.get? b = some o := fun b o e => kept1 b o (Heap.get?_push_of_some _ e)
  have size0 : s1.heap.objs.size + 1 ≤ h'.objs.size := by
    have : (s1.heap.push { cls := .type "dict_items", data := .fields #[.ref a] }).objs.size = s1.heap.objs.size + 1 := size_push' _ _
    omega
  have lenp : as.length = ps.length := by omega
  have dist : as.Nodup := List.Pairwise.imp (fun h => Nat.ne_of_lt h) made.rise
  have atL : (h'.push { cls := .type "list", data := .seq (as.map Value.ref).toArray }).get? h'.objs.size = some (seqObj "list" (as.map Value.ref).toArray 0) := Heap.get?_push_size _ rfl
  generalize eqh : h'.push { cls := .type "list", data := .seq (as.map Value.ref).toArray } = h2 at atL ⊢
  have keep2 : ∀ b o, h'.get? b = some o → h2.get? b = some o := fun b o e => by rw [← eqh]; exact Heap.get?_push_of_some _ e
  -- the pairs that were made
  have prs : ∀ (j : Nat) (b : Addr), as[j]? = some b → ∃ p, ps[j]? = some p ∧ ∃ t u, h'.get? b = some { cls := .type "tuple", data := .seq #[.int p.1 t, .int p.2 u] } := fun j b hj => by
    obtain ⟨en, he, hg⟩ := made.pairs j b hj
    obtain ⟨p, t, u, z1, z2, z3⟩ := eat j en (by rw [Array.getElem?_toList]; exact he)
    exact ⟨p, z1, t, u, by rw [hg, z2, z3]⟩
  have isP : ∀ (j : Nat) (b : Addr), as[j]? = some b → ∃ p, ps[j]? = some p ∧ Srt.IsPair h2 (.ref b) p.1 p.2 := fun j b hj => by
    obtain ⟨p, z1, t, u, z2⟩ := prs j b hj
    exact ⟨p, z1, b, _, t, u, 0, rfl, keep2 _ _ z2, rfl, rfl⟩
  have memP : ∀ v ∈ as.map Value.ref, Srt.IsPair h2 v (pairAt h2 v).1 (pairAt h2 v).2 := fun v hv => by
    obtain ⟨b, hb, rfl⟩ := List.mem_map.mp hv
    obtain ⟨j, hj⟩ := List.mem_iff_getElem?.mp hb
    obtain ⟨p, _, z⟩ := isP j b hj
    rw [pairAt_eq z]
    exact z
  have mapP : as.map (fun b => pairAt h2 (.ref b)) = ps := by
    refine List.ext_getElem? fun j => ?_
    rw [List.getElem?_map]
    cases hj : as[j]? with
    | none =>
      have := List.getElem?_eq_none_iff.mp hj
      rw [List.getElem?_eq_none (by omega)]
      rfl
    | some b =>
      obtain ⟨p, z1, z2⟩ := isP j b hj
      rw [z1, Option.map_some, pairAt_eq z2]
  have lenz : (as.map Value.ref).length ≤ sizeLine := by rw [List.length_map, sizeLine_eq]; omega
  refine wpAny_call_entry slot_list_sort ⟨_, atL, rfl⟩ entry_list_sort (SrtO.list_sort_ord (s := { s1 with heap := h2, toks := tk }) (SrtO.swo_lex (pairAt h2)) atL lenz (fun two => SrtO.pairs_sortableO (s := { s1 with heap := h2, toks := tk }) (by omega) memP fun o e => ?_) fun out srt stb => ⟨.none, rfl, ?_⟩) (args_list_sort _)
  · have : some o = some (seqObj "list" (as.map Value.ref).toArray 0) := e.symm.trans atL
    cases this
    intro c
    exact absurd (Value.type.inj c) (by decide)
  -- behind the sort
  obtain ⟨bs, hbs⟩ : ∃ bs : List Addr, out = bs.map Value.ref := by
    have all : ∀ v ∈ out, ∃ b, v = Value.ref b := fun v hv => by
      obtain ⟨b, _, e⟩ := List.mem_map.mp (stb.perm.mem_iff.mp hv)
      exact ⟨b, e.symm⟩
    clear srt stb
    induction out with
    | nil => exact ⟨[], rfl⟩
    | cons v out ih =>
      obtain ⟨b, rfl⟩ := all v List.mem_cons_self
      obtain ⟨bs, e⟩ := ih fun v hv => all v (List.mem_cons_of_mem _ hv)
      exact ⟨b :: bs, by rw [e]; rfl⟩
  subst hbs
  have perm : bs.Perm as := by
    have := stb.perm.map (fun v : Value => match v with | .ref a => a | _ => 0)
    rw [List.map_map, List.map_map] at this
    simpa [Function.comp_def] using this
  have pairsS : bs.map (fun b => pairAt h2 (.ref b)) = srtP ps := by
    refine leP_uniq ?_ (srtP_pw ps) ?_
    · have : (bs.map Value.ref).Pairwise (fun v u => SrtO.lexB (pairAt h2 u) (pairAt h2 v) = false) := srt
      rw [List.pairwise_map] at this ⊢
      exact this
    · have := perm.map (fun b => pairAt h2 (.ref b))
      rw [mapP] at this
      exact this.trans (srtP_perm ps).symm
  have lenb : bs.length = ps.length := perm.length_eq.trans lenp
  obtain ⟨eF, heF⟩ := sortedHeap_at (vs := as.map Value.ref) (out := (bs.map Value.ref).toArray) atL
  have keepF : ∀ b o, h'.get? b = some o → (sortedHeap h2 h'.objs.size (as.map Value.ref) (bs.map Value.ref).toArray).get? b = some o := fun b o e => (sortedHeap_old (Nat.ne_of_lt (Heap.lt_size e)) (Heap.lt_size (keep2 b o e))).trans (keep2 b o e)
  show EP X pins σ Q (.ref h'.objs.size) { s1 with heap := sortedHeap h2 h'.objs.size (as.map Value.ref) (bs.map Value.ref).toArray, toks := tk }
  generalize sortedHeap h2 h'.objs.size (as.map Value.ref) (bs.map Value.ref).toArray = hF at heF keepF ⊢
  have J1 : Inv X pins σ H1 { s1 with heap := hF, toks := tk } := I1.kept (t' := tk) fun b o e => keepF b o (kept0 b o e)
  have zipF : (bs.zip ((srtP ps).map pV)).map (·.1) = bs := List.map_fst_zip (by rw [List.length_map, (srtP_perm ps).length_eq, lenb]; exact Nat.le_refl _)
  have mem0 : ∀ b ∈ as, s1.heap.objs.size ≤ b ∧ b < h'.objs.size := fun b hb => by
    have hab : s1.heap.objs.size + 1 < b := by
      have h0 := made.above b hb
      rwa [size_push'] at h0
    exact ⟨Nat.le_of_lt (Nat.lt_of_succ_lt hab), made.there hb⟩
  obtain ⟨H2, J2, lay, same⟩ := takeL I1 (bs.zip ((srtP ps).map pV)) H1 J1 (by rw [zipF]; exact perm.nodup_iff.mpr dist) fun z hz => by
    obtain ⟨i, hi⟩ := List.mem_iff_getElem?.mp hz
    obtain ⟨i1, i2⟩ := List.getElem?_zip_eq_some.mp hi
    have hb : z.1 ∈ as := perm.mem_iff.mp (List.mem_of_getElem? i1)
    obtain ⟨lo, hi'⟩ := mem0 _ hb
    obtain ⟨j, hj⟩ := List.mem_iff_getElem?.mp hb
    obtain ⟨p, z1, t, u, z2⟩ := prs j _ hj
    have ep : pairAt h2 (.ref z.1) = p := by
      obtain ⟨p', z1', zz⟩ := isP j _ hj
      rw [z1] at z1'
      cases z1'
      exact pairAt_eq zz
    have ez : z.2 = pV p := by
      rw [List.getElem?_map, ← pairsS, List.getElem?_map, i1] at i2
      simp only [Option.map_some, Option.some.injEq] at i2
      rw [← i2, ep]
    refine ⟨lo, I1.hok.fresh lo, fun H3 => ?_⟩
    rw [ez]
    exact ⟨by rw [sizeLine_eq]; show 2 ≤ 16777216; omega, [.int p.1 t, .int p.2 u], .cons ⟨t, rfl⟩ (.cons ⟨u, rfl⟩ .nil), ⟨_, keepF _ _ z2, rfl, 0, rfl⟩⟩
  have freeL : H2 h'.objs.size = none := by
    rw [same _ (by rw [zipF]; intro m; exact Nat.lt_irrefl _ (mem0 _ (perm.mem_iff.mp m)).2)]
    exact I1.hok.fresh (by omega)
  have J3 : Inv X pins σ (upd H2 h'.objs.size (.lst (bs.map V.ref))) { s1 with heap := hF, toks := tk } :=
    J2.take (h' := hF) (t' := tk) (fun b ob _ e => e) (I1.fpOk (by omega) freeL) ⟨by rw [List.length_map, sizeLine_eq]; omega, bs.map Value.ref, eF, vals_maps (fun b : Addr => V.ref b) (fun b => Value.ref b) bs fun _ _ => rfl, heF⟩
  exact ⟨.ref h'.objs.size, _, J3, rfl, q H2 _ bs lenb lay freeL⟩⟩
/-- the items, ascending -/
def pDD (p : Int × Int) : D := .tuple [.int p.1, .int p.2]
def sortItemsD : D → Rs Ce
  | .dict false ks vs => (match intsOf ks, intsOf vs with
    | some a, some b => if a.length = b.length ∧ a.length ≤ 4000 then .ok (.l false ((srtP (a.zip b)).map pDD)) else .no
    | _, _ => .no)
  | _ => .no
theorem sortItemsD_i {a b : List Int} (h : a.length = b.length) (h2 : a.length ≤ 4000) : sortItemsD (.dict false (a.map .int) (b.map .int)) = .ok (.l false ((srtP (a.zip b)).map pDD)) := by
  simp only [sortItemsD, intsOf_ints]
  exact if_pos ⟨h, h2⟩
def mSortItems (m : M Hd) : M Ce := fun e => (m e).bind fun p => (p.1.get p.2).bind fun d => (sortItemsD d).bind fun c => .ok (c, p.2)
@[simp] theorem mSortItems_r (m : M Hd) (e : En) : mSortItems m e = (m e).bind fun p => (p.1.get p.2).bind fun d => (sortItemsD d).bind fun c => .ok (c, p.2) := rfl
theorem kvs_ints : ∀ {kvs : List (Key × V)} {a b : List Int}, kvs.map (fun p => kD p.1) = a.map D.int → kvs.map (·.2) = b.map V.int → kvs = (a.zip b).map fun p => ((Sum.inl p.1 : Key), V.int p.2)
  | [], [], _, _, _ => rfl
  | [], _ :: _, _, h, _ => by cases h
  | (k, v) :: kvs, [], _, h, _ => by cases h
  | (k, v) :: kvs, x :: a, [], _, h => by cases h
  | (k, v) :: kvs, x :: a, y :: b, h, h2 => by
    rw [List.map_cons, List.map_cons] at h h2
    obtain ⟨e1, e2⟩ := List.cons.inj h
    obtain ⟨e3, e4⟩ := List.cons.inj h2
    have ek : k = Sum.inl x := by
      cases k with
      | inl i => cases e1; rfl
      | inr s => cases e1
    have ev : v = V.int y := e3
    rw [kvs_ints e2 e4, ek, ev]
    rfl
theorem dnA_prs {K : PySem.W.Frag} {F2 : Hp} : ∀ (bs : List Addr) (ps : List (Int × Int)), bs.length = ps.length → (∀ z ∈ bs.zip (ps.map pV), F2 z.1 = some (.tup z.2)) → DnA K F2 (bs.map V.ref) (ps.map pDD)
  | [], [], _, _ => .nil
  | b :: bs, p :: ps, h, g => .cons (.tup (g (b, pV p) List.mem_cons_self) (.cons (.int _) (.cons (.int _) .nil))) (dnA_prs bs ps (by simpa using h) fun z hz => g z (List.mem_cons_of_mem _ hz))
theorem pn_sortItems {e : Expr} {m : M Hd} {p apos cpos pos : Pos} (calm : X.calm = true) (g1 : Gl X "sorted") (m1 : X.mg "sorted" = none) (pd : PH X e m) (hbase : attributeBase e "items" X.env (eval e X.env) = eval e X.env := by rfl) (hline : (apos.endLine == cpos.line) = true := by rfl)
    (one : starEach [.Call (.Attribute e "items" apos) [] [] cpos] X.env = (false, eval (.Call (.Attribute e "items" apos) [] [] cpos) X.env) :: starEach [] X.env := by rfl) :
    PN X (.Call (.Name "sorted" p) [.Call (.Attribute e "items" apos) [] [] cpos] [] pos) (mSortItems m) := PEimp (pe_sortItems calm g1 m1 pd hbase hline one) fun σ H Q ⟨G, F, e, c, e', r, hm, q⟩ => by
  obtain ⟨x, e1, h1, hm⟩ := bind_ok2 hm
  obtain ⟨d, h2, hm⟩ := Rs.bind_eq hm
  obtain ⟨c', h3, hm⟩ := Rs.bind_eq hm
  cases hm
  refine ⟨G, F, e, x, _, r, h1, fun v F1 H1 n1 hv => ?_⟩
  unfold sortItemsD at h3
  split at h3
  · rename_i ks vs
    split at h3
    · rename_i a b ha hb
      obtain ⟨⟨hl, hz⟩, h3⟩ := ite_ok h3
      cases h3
      obtain ⟨ad, o, xs, rfl, q1, q2, q3⟩ := (hv.vw n1.r h2).dict n1.r.fh
      rw [intsOf_eq hb] at q3
      have exs := q3.ints
      rcases q2 with ⟨_, kvs, rfl, z1, z2⟩ | ⟨z, _⟩
      · rw [intsOf_eq ha] at z1
        have ek := kvs_ints z1 (z2.trans exs)
        subst ek
        have lz : (a.zip b).length = a.length := by rw [List.length_zip]; omega
        refine ⟨ad, a.zip b, rfl, q1, by omega, fun H2 l bs lb lay free => ?_⟩
        obtain ⟨F2, go, tups⟩ := lays_go lay n1.r.fh
        have n2 := n1.trans (n1.r.step go)
        have go3 : Go F2 H2 F2 (upd H2 l (.lst (bs.map V.ref))) noA := Go.newO go.fh free
        refine q _ _ _ (n2.trans (n2.r.step go3)) (.inr ⟨rfl, l, _, bs.map V.ref, rfl, n2.go.old r.fh free, ex_none go.fh free, upd_same, rfl, ?_⟩)
        exact dnA_prs bs (srtP (a.zip b)) (by rw [(srtP_perm _).length_eq]; exact lb) tups
      · cases z
    · cases h3
  · cases h3
end
end DL

namespace DL
open PySem L2 PyProof.Rows RT RZ
/-! ### d.get(k, x) -/
def D.isDc : D → Bool
  | .dict _ _ _ => true
  | _ => false
def getOrD : D → D → D → Rs D
  | .dict t ks vs, k, x => if keyOk t k = true then .ok (match dFind ks vs k with
    | some d => d
    | none => x) else .no
  | _, _, _ => .no
def mGetO (md : M Hd) (mk mx : M D) : M D := fun e => (md e).bind fun p => (p.1.get p.2).bind fun d0 => if d0.isDc = true then (mk p.2).bind fun q => (mx q.2).bind fun z => (p.1.get z.2).bind fun d => (getOrD d q.1 z.1).bind fun r => .ok (r, z.2) else .no
@[simp] theorem mGetO_r (md : M Hd) (mk mx : M D) (e : En) : mGetO md mk mx e = (md e).bind fun p => (p.1.get p.2).bind fun d0 => if d0.isDc = true then (mk p.2).bind fun q => (mx q.2).bind fun z => (p.1.get z.2).bind fun d => (getOrD d q.1 z.1).bind fun r => .ok (r, z.2) else .no := rfl
section
variable {X : Cx} {o f g : Expr} {apos cpos : Pos}
theorem isD_of {K : PySem.W.Frag} {F H : Hp} {a : Addr} {ob : HO} {t : Bool} {ks : List D} {xs : List V} (h : H a = some ob) (hc : DcO t ob ks xs) : IsD H a := by
  rcases hc with ⟨_, kvs, rfl, _⟩ | ⟨_, kvs, rfl, _⟩
  · exact .inl ⟨kvs, .inl h⟩
  · exact .inr ⟨kvs, .inl h⟩
theorem pf_getO {md : M Hd} {mk mx : M D} (hu : X.A.units + 1 < cLine) (ho : PH X o md) (hk : PF X f mk) (hx : PF X g mx)
    (base : attributeBase o "get" X.env (eval o X.env) = eval o X.env := by rfl)
    (few : ((backTo cpos (starEach [f, g] X.env)).all (fun x => !x.1) && (backToKw cpos (keywordEach [] X.env)).all (fun x => x.1.isSome)
      && decide (([f, g] : List Expr).length + ([] : List Keyword).length + (if ([] : List Keyword).isEmpty then 0 else 1) < 30)) = true := by rfl)
    (line : (apos.endLine == cpos.line) = true := by rfl) (trees : backTo cpos (starEach [f, g] X.env) = [(false, eval f X.env), (false, eval g X.env)] := by rfl) :
    PF X (.Call (.Attribute o "get" apos) [f, g] [] cpos) (mGetO md mk mx) := PEimp (pe_dget2 hu ho hk hx ⟨base, few, line, trees⟩) fun σ H Q ⟨G, F, e, c, e', r, hm, q⟩ => by
  obtain ⟨x, e1, h1, hm⟩ := bind_ok2 hm
  obtain ⟨d0, h2, hm⟩ := Rs.bind_eq hm
  obtain ⟨hd0, hm⟩ := ite_ok hm
  obtain ⟨k, e2, h3, hm⟩ := bind_ok2 hm
  obtain ⟨z, e3, h4, hm⟩ := bind_ok2 hm
  obtain ⟨d, h5, hm⟩ := Rs.bind_eq hm
  obtain ⟨w, h6, hm⟩ := Rs.bind_eq hm
  cases hm
  refine ⟨G, F, e, x, e1, r, h1, fun vx F1 H1 n1 hvx => ?_⟩
  cases d0 <;> first
    | (cases hd0; done)
    | skip
  rename_i t0 ks0 vs0
  obtain ⟨a, ob, xs, rfl, q1, q2, q3⟩ := (hvx.vw n1.r h2).dict n1.r.fh
  refine ⟨a, rfl, isD_of (K := X.K) (F := F1) q1 q2, ⟨G, F1, e1, k, e2, n1.r, h3, fun vk F2 H2 n2 hvk => ⟨G, F2, e2, z, _, n2.r, h4, fun vz F3 H3 n3 hvz => ?_⟩⟩⟩
  cases d <;> first
    | (cases h6; done)
    | skip
  rename_i t ks vs
  obtain ⟨hok, h6⟩ := ite_ok h6
  obtain ⟨a', ob', xs', ea, q1', q2', q3'⟩ := (((hvx.nx n2).nx n3).vw n3.r h5).dict n3.r.fh
  cases ea
  obtain ⟨rr, g1, g2, g3⟩ := dget_data n3.r.fh q1' q2' q3' hok (n3.dn hvk)
  have nn := (n1.trans n2).trans n3
  refine ⟨rr, g1, ?_⟩
  split at h6
  · rename_i dd hf
    cases h6
    simp only [hf] at g3
    obtain ⟨v, rfl, g4⟩ := g3
    exact q v F3 H3 nn g4
  · rename_i hf
    cases h6
    simp only [hf] at g3
    subst g3
    exact q vz F3 H3 nn hvz
end
end DL
namespace DL
open PySem L2 PyProof.Rows RT RZ
/-! ### three at once -/
section
variable {X : Cx} {ex ey ez : Expr} {pos : Pos}
theorem pds_par3 {i j l : Nat} {x y z : Str} {px py pz pt : Pos} {kt k2 : Nat} {pt2 : Pos} {m : M (List D)} (hc : X.calm = true) (hN : X.N.Nodup) (hi : X.N[i]? = some x) (hj : X.N[j]? = some y) (hl : X.N[l]? = some z) (hij : i ≠ j) (hil : i ≠ l) (hjl : j ≠ l)
    (hx : X.env.scope.names.lookup x = some .local) (hy : X.env.scope.names.lookup y = some .local) (hz : X.env.scope.names.lookup z = some .local) (ha : PAd X [ex, ey, ez] m)
    (hw : swappedStores [.Tuple [.Name x px, .Name y py, .Name z pz] kt pt] (.Tuple [ex, ey, ez] k2 pt2) X.env = pure (some [x, y, z]))
    (hs : swapsWithSole [.Tuple [.Name x px, .Name y py, .Name z pz] kt pt] (.Tuple [ex, ey, ez] k2 pt2) pos.line X.env = pure false := by rfl) :
    PDS X (.Assign [.Tuple [.Name x px, .Name y py, .Name z pz] kt pt] (.Tuple [ex, ey, ez] k2 pt2) pos) (sPar3 i j l m) :=
  PSimp (ps_par3 hc hN hi hj hl hij hil hjl hx hy hz ha hw hs) fun E σ H ⟨G, F, e, r, hp⟩ => by
    obtain ⟨ds, e1, h1, hp⟩ := onR_inv hp
    split at hp
    · rename_i a b c
      obtain ⟨hio, hp⟩ := post_ite hp
      obtain ⟨h3, h4⟩ := Bool.or_eq_false_iff.mp hio
      obtain ⟨h4, h5⟩ := Bool.or_eq_false_iff.mp h4
      refine ⟨G, F, e, _, e1, r, h1, fun vs F1 H1 n hd => ?_⟩
      cases hd with
      | cons d1 t1 => cases t1 with
        | cons d2 t2 => cases t2 with
          | cons d3 t3 =>
            cases t3
            rename_i v1 v2 v3
            refine ⟨v1, v2, v3, rfl, ?_⟩
            have r1 := n.r.set (i := i) h3 (.inl ⟨a, rfl, d1⟩)
            have r2 := r1.set (i := j) (ioAt_setN rfl h4) (.inl ⟨b, rfl, d2⟩)
            exact hp F1 H1 _ (r2.set (i := l) (ioAt_setN rfl (ioAt_setN rfl h5)) (.inl ⟨c, rfl, d3⟩)) n.go.ff
    · exact hp.elim
@[simp] theorem sPar3_r (i j l : Nat) (m : M (List D)) (e : En) : sPar3 i j l m e = onR (m e) fun ds e1 => match ds with
  | [a, b, c] => if (ioAt e1 i || (ioAt e1 j || ioAt e1 l)) = true then .no else .nx (((e1.set i (some (.f a))).set j (some (.f b))).set l (some (.f c)))
  | _ => .no := rfl
end
end DL

namespace Md
open PySem L2 DL PyProof.Rows
noncomputable def m_law_cell : En → Out :=
  (sSeq (sIf (mBool (m2 ltD (mH (mN (mVar 1))) (mH (mL lenD (aCons (mH (mN (mVar 0))) aNil))))) (sRet (m2 ixD (mH (mN (mVar 0))) (mH (mN (mVar 1))))) sNext)
    (sRet (mN (mC (.int 0)))))
noncomputable def m_law_digits_b1 : En → Out :=
  (sIf (mBool (m2 gtD (mH (mN (mVar 5))) (mH (mN (mC (.int 0)))))) (sSeq (sApp 3 (mZ (m2 modD (mH (mL intD (aCons (mH (mN (mVar 5))) aNil))) (mH (mN (mC (.int 1000)))))))
    (sAsgF 5 (mZ (m2 fdivD (mH (mN (mVar 5))) (mH (mN (mC (.int 1000)))))))) sNext)
noncomputable def m_law_digits_b2 : En → Out :=
  (sSeq (sAsgF 7 (mZ (m2 modD (mH (mL intD (aCons (mH (m2 addD (mH (m2 addD (mH (m2 mulD (mH (mN (mVar 7))) (mH (mN (mC (.int 16807)))))) (mH (m2 mulD (mH (mN (mC (.int 7)))) (mH (mN (mVar 6))))))) (mH (mN (mC (.int 1)))))) aNil))) (mH (mN (mC (.int 2147483647)))))))
    (sApp 3 (mZ (m2 modD (mH (mL intD (aCons (mH (m2 fdivD (mH (mN (mVar 7))) (mH (mN (mC (.int 997)))))) aNil))) (mH (mN (mC (.int 1000))))))))
noncomputable def m_law_digits_b3 (S_law_cell : Sf) : En → Out :=
  (sSeq (sAsgF 5 (mZ (mCall S_law_cell (aCons (aD (mVar 0)) (aCons (aD (mVar 4)) aNil)))))
    (sSeq (sIf (mBool (m2 ltD (mH (mN (mVar 5))) (mH (mN (mC (.int 0)))))) (sAsgF 5 (mZ (m2 subD (mH (mN (mC (.int 1)))) (mH (m2 mulD (mH (mN (mC (.int 2)))) (mH (mN (mVar 5)))))))) sNext)
    (sSeq (sIf (mBool (m2 gtD (mH (mL lenD (aCons (mSl 3) aNil))) (mH (mN (mC (.int 1500)))))) sBreak sNext)
    (sIf (mBool (m2 geD (mH (mN (mVar 5))) (mH (m2 powD (mH (mN (mC (.int 10)))) (mH (mN (mC (.int 18)))))))) (sFor (mRng1 (aCons (mC (.int 60)) aNil)) (tgN 6) m_law_digits_b1) (sSeq (sAsgF 7 (mZ (m2 modD (mH (mL intD (aCons (mH (m2 addD (mH (m2 addD (mH (m2 mulD (mH (mN (mVar 5))) (mH (mN (mC (.int 48271)))))) (mH (m2 mulD (mH (mN (mVar 4))) (mH (mN (mC (.int 69621)))))))) (mH (mN (mC (.int 11)))))) aNil))) (mH (mN (mC (.int 2147483647)))))))
    (sFor (mRng1 (aCons (mC (.int 12)) aNil)) (tgN 6) m_law_digits_b2))))))
noncomputable def m_law_digits (S_law_cell : Sf) : En → Out :=
  (sSeq (sAsg 3 (mLst aNil))
    (sSeq (sFor (mRng2 (aCons (mVar 1) (aCons (mVar 2) aNil))) (tgN 4) (m_law_digits_b3 S_law_cell))
    (sRetS 3)))
noncomputable def m_law_draw : En → Out :=
  (sSeq (sAsgF 2 (mZ (m2 ixD (mSl 0) (mH (mN (mC (.int 1)))))))
    (sSeq (sLPut 0 (mC (.int 1)) (mZ (m2 addD (mH (mN (mVar 2))) (mH (mN (mC (.int 1)))))))
    (sSeq (sIf (mBool (m2 ltD (mH (mN (mVar 2))) (mH (mL lenD (aCons (mH (m2 ixD (mSl 0) (mH (mN (mC (.int 0)))))) aNil))))) (sRet (m2 modD (mH (mL intD (aCons (mH (m2 ixD (mH (m2 ixD (mSl 0) (mH (mN (mC (.int 0)))))) (mH (mN (mVar 2))))) aNil))) (mH (mN (mVar 1))))) sNext)
    (sRet (m2 modD (mH (mL intD (aCons (mH (m2 mulD (mH (mN (mVar 2))) (mH (mN (mC (.int 7)))))) aNil))) (mH (mN (mVar 1))))))))
noncomputable def m_law_like_c1 (S_law_like : Sf) : M Bool :=
  (mNot (mTru (mH (mCall S_law_like (aCons (aD (mZ (m2 ixD (mH (mN (mVar 0))) (mH (mN (mVar 2)))))) (aCons (aD (mZ (m2 ixD (mH (mN (mVar 1))) (mH (mN (mVar 2)))))) aNil))))))
noncomputable def m_law_like_e1 : M D :=
  (mC (.int 1))
noncomputable def m_law_like (S_law_like : Sf) : En → Out :=
  (sSeq (sIf (mTru (mH (mN (mIs "tuple" (mH (mN (mVar 1))))))) (sSeq (sIf (mOr (mNot (mTru (mH (mN (mIs "tuple" (mH (mN (mVar 0)))))))) (mBool (m2 neD (mH (mL lenD (aCons (mH (mN (mVar 0))) aNil))) (mH (mL lenD (aCons (mH (mN (mVar 1))) aNil)))))) (sRet (mN (mC (.bool false)))) sNext)
    (sRet (m2 eqD (mH (mComp (mRng1 (aCons (mZ (mL lenD (aCons (mH (mN (mVar 1))) aNil))) aNil)) (tgN 2) [2] (m_law_like_c1 S_law_like) m_law_like_e1)) (mH (mLst aNil))))) sNext)
    (sSeq (sIf (mBool (m2 isD (mH (mN (mVar 1))) (mH (mN (mC .none))))) (sRet (m2 isD (mH (mN (mVar 0))) (mH (mN (mC .none))))) sNext)
    (sSeq (sIf (mBool (m2 isD (mH (mN (mVar 1))) (mH (mN (mC (.bool true)))))) (sRet (m2 isD (mH (mN (mVar 0))) (mH (mN (mC (.bool true)))))) sNext)
    (sSeq (sIf (mBool (m2 isD (mH (mN (mVar 1))) (mH (mN (mC (.bool false)))))) (sRet (m2 isD (mH (mN (mVar 0))) (mH (mN (mC (.bool false)))))) sNext)
    (sSeq (sIf (mTru (mH (mN (mIs "str" (mH (mN (mVar 1))))))) (sRet (mAndV (mN (mIs "str" (mH (mN (mVar 0))))) (m2 eqD (mH (mJoin (mH (mN (mC (.str "")))) (mH (mLst (aCons (mVar 0) aNil))))) (mH (mN (mVar 1)))))) sNext)
    (sRet (mAndV (mN (mIs "int" (mH (mN (mVar 0))))) (mAndV (mN (mNotV (mN (mIs "bool" (mH (mN (mVar 0))))))) (m2 eqD (mH (mN (mVar 0))) (mH (mN (mVar 1))))))))))))
noncomputable def m_law_number : En → Out :=
  (sRet (mAndV (mN (mIs "int" (mH (mN (mVar 0))))) (mAndV (mN (mNotV (mN (mIs "bool" (mH (mN (mVar 0))))))) (mChain leD leD (mH (mN (mVar 1))) (mH (mN (mVar 0))) (mH (mN (mVar 2)))))))
end Md
namespace Sh
open PySem L2 DL PyProof.Rows Md
/-! ### the laws' own small functions -/
/-- _law_cell -/
noncomputable def S_cell : Sf
  | [.f (.ro xs), .f (.int k)] => if 0 ≤ k then .ok (.f ((xs[k.toNat]?).getD (.int 0)), []) else .no
  | _ => .no
theorem sem_cell : ∀ cs c outs, S_cell cs = .ok (c, outs) → cs.length = 2 ∧ runD 2 m_law_cell cs = .ok (c, outs) := by
  intro cs c outs h
  unfold S_cell at h
  split at h
  · rename_i xs k
    obtain ⟨h1, h⟩ := ite_ok h
    cases h
    refine ⟨rfl, ?_⟩
    by_cases hk : k < (xs.length : Int)
    · have hx : xs[k.toNat]? = some (xs[k.toNat]'(by omega)) := List.getElem?_eq_getElem (by omega)
      simp [runD_r, startE, m_law_cell, hk, hx, ixD_roN h1 hx]
    · have hx : xs[k.toNat]? = none := List.getElem?_eq_none (by omega)
      simp [runD_r, startE, m_law_cell, hk, hx]
  · cases h
/-- the draw behind xs at the place at -/
def dv (xs : List D) (at' many : Int) : Int := match xs[at'.toNat]? with
  | some (.int d) => d % many
  | _ => (at' * 7) % many
theorem dv_nn {xs : List D} {a m : Int} (h : 0 < m) : 0 ≤ dv xs a m := by
  unfold dv
  split <;> exact Int.emod_nonneg _ (by omega)
theorem dv_lt {xs : List D} {a m : Int} (h : 0 < m) : dv xs a m < m := by
  unfold dv
  split <;> exact Int.emod_lt_of_pos _ h
/-- _law_draw -/
noncomputable def S_draw : Sf
  | [.l true [.list xs, .int a], .f (.int m)] => if 0 ≤ a ∧ a < 2 ^ 62 ∧ 0 < m ∧ m < 2 ^ 62 ∧ xs.all D.isI = true then .ok (.f (.int (dv xs a m)), [.l true [.list xs, .int (a + 1)]]) else .no
  | _ => .no
theorem draw_r {xs : List D} {a m : Int} (h : xs.all D.isI = true) (h1 : 0 ≤ a) (h2 : a < 2 ^ 62) (h3 : 0 < m) (h4 : m < 2 ^ 62) : S_draw [.l true [.list xs, .int a], .f (.int m)] = .ok (.f (.int (dv xs a m)), [.l true [.list xs, .int (a + 1)]]) := if_pos ⟨h1, h2, h3, h4, h⟩
theorem sem_draw : ∀ cs c outs, S_draw cs = .ok (c, outs) → cs.length = 2 ∧ runD 3 m_law_draw cs = .ok (c, outs) := by
  intro cs c outs h
  unfold S_draw at h
  split at h
  · rename_i xs a m
    obtain ⟨⟨h1, h2, h3, h4, h5⟩, h⟩ := ite_ok h
    cases h
    refine ⟨rfl, ?_⟩
    by_cases hk : a < (xs.length : Int)
    · have hx : xs[a.toNat]? = some (xs[a.toNat]'(by omega)) := List.getElem?_eq_getElem (by omega)
      have hi : D.isI (xs[a.toNat]'(by omega)) = true := List.all_eq_true.mp h5 _ (List.getElem_mem _)
      generalize xs[a.toNat]'(by omega) = d at hx hi
      cases d <;> simp [D.isI] at hi
      rename_i j
      simp [runD_r, startE, m_law_draw, hk, hx, ixD_lN h1 hx, modD_i h3, dv]
    · have hx : xs[a.toNat]? = none := List.getElem?_eq_none (by omega)
      have hm : MulOk a 7 := mulOk_r' (by decide) (by decide)
      simp [runD_r, startE, m_law_draw, hk, hx, modD_i h3, mulD_i hm, dv]
  · cases h
/-- _law_number -/
noncomputable def S_number : Sf
  | [.f (.int a), .f (.int lo), .f (.int hi)] => .ok (.f (.bool (decide (lo ≤ a) && decide (a ≤ hi))), [])
  | _ => .no
theorem sem_number : ∀ cs c outs, S_number cs = .ok (c, outs) → cs.length = 3 ∧ runD 3 m_law_number cs = .ok (c, outs) := by
  intro cs c outs h
  unfold S_number at h
  split at h
  · cases h
    refine ⟨rfl, ?_⟩
    rename_i a lo hi
    by_cases h1 : lo ≤ a
    · simp [runD_r, startE, m_law_number, h1]
    · simp [runD_r, startE, m_law_number, h1]
  · cases h
end Sh
namespace Sh
open PySem L2 DL PyProof.Rows Md
def eDig (r f l : D) (xs : List D) (a b c d : Option D) : En := [some (.f r), some (.f f), some (.f l), some (.l false xs), a.map .f, b.map .f, c.map .f, d.map .f]
theorem dig_w60 {r f l : D} {a d : Option D} : ∀ (ds xs : List D) (x : Int) (c : Option D), ds.all D.isI = true → xs.all D.isI = true → xs.length + ds.length ≤ 1560 →
    ∃ xs' x' c', loopL (tgN 6) (m_law_digits_b1) ds (eDig r f l xs a (some (.int x)) c d) = .nx (eDig r f l xs' a (some (.int x')) c' d) ∧ xs'.all D.isI = true ∧ xs'.length ≤ 1560
  | [], xs, x, c, _, h, hl => ⟨xs, x, c, rfl, h, by simpa using hl⟩
  | y :: ds, xs, x, c, hd, h, hl => by
    rw [List.all_cons, Bool.and_eq_true] at hd
    simp only [List.length_cons] at hl
    have e1 : tgN 6 y (eDig r f l xs a (some (.int x)) c d) = .ok (eDig r f l xs a (some (.int x)) (some y) d) := tgN_f (a := c) rfl
    have hdv : DivOk (1000 : Int) := divOk_of (n := 10) (by decide) (by decide) (by decide)
    have hlt : xs.length < 16000000 := by omega
    by_cases hx : 0 < x
    · have : m_law_digits_b1 (eDig r f l xs a (some (.int x)) (some y) d) = .nx (eDig r f l (xs ++ [.int (x % 1000)]) a (some (.int (x / 1000))) (some y) d) := by
        simp [m_law_digits_b1, eDig, hx, modD_i, fdivD_i hdv, hlt]
      rw [loop_nx e1 this]
      exact dig_w60 ds _ _ _ hd.2 (allI_app h) (by simp; omega)
    · have : m_law_digits_b1 (eDig r f l xs a (some (.int x)) (some y) d) = .nx (eDig r f l xs a (some (.int x)) (some y) d) := by
        simp [m_law_digits_b1, eDig, hx]
      rw [loop_nx e1 this]
      exact dig_w60 ds _ _ _ hd.2 h (by omega)
theorem dig_w12 {r f l : D} {a b : Option D} : ∀ (ds xs : List D) (x : Int) (c : Option D), ds.all D.isI = true → xs.all D.isI = true → xs.length + ds.length ≤ 1560 →
    ∃ xs' x' c', loopL (tgN 6) (m_law_digits_b2) ds (eDig r f l xs a b c (some (.int x))) = .nx (eDig r f l xs' a b c' (some (.int x'))) ∧ xs'.all D.isI = true ∧ xs'.length ≤ 1560
  | [], xs, x, c, _, h, hl => ⟨xs, x, c, rfl, h, by simpa using hl⟩
  | y :: ds, xs, x, c, hd, h, hl => by
    rw [List.all_cons, Bool.and_eq_true] at hd
    obtain ⟨i, rfl⟩ := isI_int hd.1
    simp only [List.length_cons] at hl
    have e1 : tgN 6 (.int i) (eDig r f l xs a b c (some (.int x))) = .ok (eDig r f l xs a b (some (.int i)) (some (.int x))) := tgN_f (a := c) rfl
    have hdv : DivOk (997 : Int) := divOk_of (n := 10) (by decide) (by decide) (by decide)
    have hlt : xs.length < 16000000 := by omega
    have m1 : MulOk x 16807 := mulOk_r' (by decide) (by decide)
    have m2 : MulOk 7 i := mulOk_l (by decide) (by decide)
    have : m_law_digits_b2 (eDig r f l xs a b (some (.int i)) (some (.int x))) = .nx (eDig r f l (xs ++ [.int ((x * 16807 + 7 * i + 1) % 2147483647 / 997 % 1000)]) a b (some (.int i)) (some (.int ((x * 16807 + 7 * i + 1) % 2147483647)))) := by
      simp [m_law_digits_b2, eDig, modD_i, fdivD_i hdv, hlt, mulD_i m1, mulD_i m2]
    rw [loop_nx e1 this]
    exact dig_w12 ds _ _ _ hd.2 (allI_app h) (by simp; omega)
theorem dig_loop (ns : List Int) : ∀ (ds xs : List D) (a b c d : Option D), ds.all (fun x => match x with | .int i => decide (0 ≤ i) | _ => false) = true → xs.all D.isI = true → xs.length ≤ 1560 → ∃ xs' a' b' c' d', loopL (tgN 4) (m_law_digits_b3 S_cell) ds (eDig (.ro (ns.map .int)) (.int 0) (.int 63) xs a b c d) = .nx (eDig (.ro (ns.map .int)) (.int 0) (.int 63) xs' a' b' c' d') ∧ xs'.all D.isI = true ∧ xs'.length ≤ 1560 := by
  intro ds
  induction ds with
  | nil => exact fun xs a b c d _ h hl => ⟨xs, a, b, c, d, rfl, h, hl⟩
  | cons y ds ih =>
    intro xs a b c d hd h hl
    rw [List.all_cons, Bool.and_eq_true] at hd
    obtain ⟨hy, hd⟩ := hd
    cases y <;> try (simp at hy; done)
    rename_i k
    simp only [decide_eq_true_eq] at hy
    have e1 : tgN 4 (.int k) (eDig (.ro (ns.map .int)) (.int 0) (.int 63) xs a b c d) = .ok (eDig (.ro (ns.map .int)) (.int 0) (.int 63) xs (some (.int k)) b c d) := tgN_f (a := a) rfl
    obtain ⟨i, hi⟩ : ∃ i, S_cell [.f (.ro (ns.map .int)), .f (.int k)] = .ok (.f (.int i), []) := by
      refine ⟨(ns[k.toNat]?).getD 0, ?_⟩
      show (if 0 ≤ k then _ else _) = _
      rw [if_pos hy, List.getElem?_map]
      cases ns[k.toNat]? <;> rfl
    have m : MulOk 2 i := mulOk_l (by decide) (by decide)
    obtain ⟨j, ej⟩ : ∃ j, j = if i < 0 then 1 - 2 * i else i := ⟨_, rfl⟩
    have e2 : ∀ s : En → Out, sSeq (sAsgF 5 (mZ (mCall S_cell (aCons (aD (mVar 0)) (aCons (aD (mVar 4)) aNil))))) s (eDig (.ro (ns.map .int)) (.int 0) (.int 63) xs (some (.int k)) b c d) = s (eDig (.ro (ns.map .int)) (.int 0) (.int 63) xs (some (.int k)) (some (.int i)) c d) := fun s => by
      cases b <;> simp [eDig, hi]
    have e3 : ∀ s : En → Out, sSeq (sIf (mBool (m2 ltD (mH (mN (mVar 5))) (mH (mN (mC (.int 0)))))) (sAsgF 5 (mZ (m2 subD (mH (mN (mC (.int 1)))) (mH (m2 mulD (mH (mN (mC (.int 2)))) (mH (mN (mVar 5)))))))) sNext) s (eDig (.ro (ns.map .int)) (.int 0) (.int 63) xs (some (.int k)) (some (.int i)) c d) = s (eDig (.ro (ns.map .int)) (.int 0) (.int 63) xs (some (.int k)) (some (.int j)) c d) := fun s => by
      by_cases hi : i < 0
      · simp [eDig, ej, hi, mulD_i m]
      · simp [eDig, ej, hi]
    by_cases hb : 1500 < xs.length
    · have : m_law_digits_b3 S_cell (eDig (.ro (ns.map .int)) (.int 0) (.int 63) xs (some (.int k)) b c d) = .bk (eDig (.ro (ns.map .int)) (.int 0) (.int 63) xs (some (.int k)) (some (.int j)) c d) := by
        unfold m_law_digits_b3
        have : (1500 : Int) < (xs.length : Int) := by omega
        rw [e2, e3]
        simp [eDig, this]
      rw [loop_bk e1 this]
      exact ⟨_, _, _, _, _, rfl, h, hl⟩
    · have h15 : ¬ (1500 : Int) < (xs.length : Int) := by omega
      by_cases hj : 1000000000000000000 ≤ j
      · obtain ⟨xs', x', c', g1, g2, g3⟩ := dig_w60 (r := .ro (ns.map .int)) (f := .int 0) (l := .int 63) (a := some (.int k)) (d := d) (rgD 0 60) xs j c (allI_rg 0 60) h (by rw [rgD_len]; omega)
        have : m_law_digits_b3 S_cell (eDig (.ro (ns.map .int)) (.int 0) (.int 63) xs (some (.int k)) b c d) = .nx (eDig (.ro (ns.map .int)) (.int 0) (.int 63) xs' (some (.int k)) (some (.int x')) c' d) := by
          unfold m_law_digits_b3
          rw [e2, e3, ← g1]
          simp [eDig, h15, hj]
        rw [loop_nx e1 this]
        exact ih _ _ _ _ _ hd g2 g3
      · have m1 : MulOk j 48271 := mulOk_r' (by decide) (by decide)
        have m2 : MulOk k 69621 := mulOk_r' (by decide) (by decide)
        obtain ⟨xs', x', c', g1, g2, g3⟩ := dig_w12 (r := .ro (ns.map .int)) (f := .int 0) (l := .int 63) (a := some (.int k)) (b := some (.int j)) (rgD 0 12) xs ((j * 48271 + k * 69621 + 11) % 2147483647) c (allI_rg 0 12) h (by rw [rgD_len]; omega)
        have : m_law_digits_b3 S_cell (eDig (.ro (ns.map .int)) (.int 0) (.int 63) xs (some (.int k)) b c d) = .nx (eDig (.ro (ns.map .int)) (.int 0) (.int 63) xs' (some (.int k)) (some (.int j)) c' (some (.int x'))) := by
          unfold m_law_digits_b3
          rw [e2, e3, ← g1]
          cases d <;> simp [eDig, h15, hj, modD_i, mulD_i m1, mulD_i m2]
        rw [loop_nx e1 this]
        exact ih _ _ _ _ _ hd g2 g3
theorem dig_run (ns : List Int) : ∃ ds : List Int, ds.length ≤ 1560 ∧ runD 8 (m_law_digits S_cell) [.f (.ro (ns.map .int)), .f (.int 0), .f (.int 63)] = .ok (.l false (ds.map .int), []) := by
  obtain ⟨xs', a', b', c', d', g1, g2, g3⟩ := dig_loop ns (rgD 0 63) [] none none none none (by rw [rgD_map]; simp) rfl (by simp)
  obtain ⟨ds, rfl⟩ := allI_map g2
  refine ⟨ds, by simpa using g3, ?_⟩
  have g0 : loopL (tgN 4) (m_law_digits_b3 S_cell) (rgD 0 63) [some (.f (.ro (ns.map .int))), some (.f (.int 0)), some (.f (.int 63)), some (.l false []), none, none, none, none] = .nx [some (.f (.ro (ns.map .int))), some (.f (.int 0)), some (.f (.int 63)), some (.l false (ds.map .int)), a'.map .f, b'.map .f, c'.map .f, d'.map .f] := g1
  simp [runD_r, startE, m_law_digits, g0]
/-- _law_digits -/
noncomputable def S_digits : Sf := specR (fun cs => ∃ ns : List Int, cs = [.f (.ro (ns.map .int)), .f (.int 0), .f (.int 63)]) 8 (m_law_digits S_cell)
theorem sem_digits : ∀ cs c outs, S_digits cs = .ok (c, outs) → cs.length = 3 ∧ runD 8 (m_law_digits S_cell) cs = .ok (c, outs) := specR_sem fun cs ⟨ns, h⟩ => by rw [h]; rfl
theorem digits_r (ns : List Int) : ∃ ds : List Int, ds.length ≤ 1560 ∧ S_digits [.f (.ro (ns.map .int)), .f (.int 0), .f (.int 63)] = .ok (.l false (ds.map .int), []) := by
  obtain ⟨ds, h1, h2⟩ := dig_run ns
  exact ⟨ds, h1, by unfold S_digits; rw [specR_ok ⟨ns, rfl⟩, h2]⟩
end Sh
namespace Sh
open PySem L2 DL PyProof.Rows Md
/-- what _law_like compares, n deep -/
def lk : Nat → D → Bool
  | _, .none => true
  | _, .bool _ => true
  | _, .int _ => true
  | _, .str s => decide (s.length ≤ 16777216)
  | n + 1, .tuple ds => decide (ds.length ≤ 10000000) && ds.all (lk n)
  | _, _ => false
open Classical in
noncomputable def S_like (n : Nat) : Sf
  | [.f a, .f b] => if a = b ∧ lk n b = true then .ok (.f (.bool true), []) else .no
  | _ => .no
theorem like_r {n : Nat} {b : D} (h : lk n b = true) : S_like n [.f b, .f b] = .ok (.f (.bool true), []) := if_pos ⟨rfl, h⟩
noncomputable def S_likeP : Nat → Sf
  | 0 => fun _ => .no
  | n + 1 => S_like n
theorem mem_rg {d : D} {n : Nat} (h : d ∈ rgD 0 n) : ∃ i : Nat, i < n ∧ d = .int (i : Int) := by
  rw [rgD_map] at h
  obtain ⟨i, hi, rfl⟩ := List.mem_map.mp h
  exact ⟨i, List.mem_range.mp hi, by simp⟩
@[simp] theorem eqD_nil : eqD (.list []) (.list []) = .ok (.f (.bool true)) := rfl
theorem lk_str {n : Nat} {s : Str} (h : lk n (.str s) = true) : s.length ≤ 16777216 := by
  cases n <;> exact of_decide_eq_true h
theorem lk_tup {n : Nat} {ds : List D} (h : lk (n + 1) (.tuple ds) = true) : ds.length ≤ 10000000 ∧ ds.all (lk n) = true := by
  have h' := Bool.and_eq_true _ _ ▸ h
  exact ⟨of_decide_eq_true h'.1, h'.2⟩
theorem sl_none (n : Nat) : runD 3 (m_law_like (S_likeP n)) [.f .none, .f .none] = .ok (.f (.bool true), []) := by simp [runD_r, startE, m_law_like]
theorem sl_bool (n : Nat) (b : Bool) : runD 3 (m_law_like (S_likeP n)) [.f (.bool b), .f (.bool b)] = .ok (.f (.bool true), []) := by cases b <;> simp [runD_r, startE, m_law_like]
theorem sl_int (n : Nat) (i : Int) : runD 3 (m_law_like (S_likeP n)) [.f (.int i), .f (.int i)] = .ok (.f (.bool true), []) := by simp [runD_r, startE, m_law_like]
theorem sl_str (n : Nat) (s : Str) (h : s.length ≤ 16777216) : runD 3 (m_law_like (S_likeP n)) [.f (.str s), .f (.str s)] = .ok (.f (.bool true), []) := by
  have hj : joinD (.str "") (.list [.str s]) = .ok (.f (.str s)) := by
    show (if ([s].map (·.length)).sum + [s].length * (Str.ofString "").length ≤ 16777216 then _ else _) = _
    rw [if_pos]
    · rfl
    · show s.length + 0 + 1 * 0 ≤ _
      omega
  simp [runD_r, startE, m_law_like, hj]
theorem sl_tup (n : Nat) (ds : List D) (hl : ds.length ≤ 10000000) (ha : ds.all (lk n) = true) : runD 3 (m_law_like (S_likeP (n + 1))) [.f (.tuple ds), .f (.tuple ds)] = .ok (.f (.bool true), []) := by
  have hc : mComp (mRng1 (aCons (mZ (mL lenD (aCons (mH (mN (mVar 1))) aNil))) aNil)) (tgN 2) [2] (m_law_like_c1 (S_likeP (n + 1))) m_law_like_e1 [some (.f (.tuple ds)), some (.f (.tuple ds)), none] = .ok (.l false [], [some (.f (.tuple ds)), some (.f (.tuple ds)), none]) := by
    have h0 : mRng1 (aCons (mZ (mL lenD (aCons (mH (mN (mVar 1))) aNil))) aNil) [some (.f (.tuple ds)), some (.f (.tuple ds)), none] = .ok (rgD 0 ds.length, [some (.f (.tuple ds)), some (.f (.tuple ds)), none]) := by
      have := rng1_r (ma := aCons (mZ (mL lenD (aCons (mH (mN (mVar 1))) aNil))) aNil) (e := [some (.f (.tuple ds)), some (.f (.tuple ds)), none]) (n := ds.length) (by simp; rfl) (by omega) (by omega)
      rw [this]
      simp
    rw [mComp_pure (fun _ => none) h0 (tgOk_n 2) (by simp) (by simp) (by rw [rgD_len]; omega) ?_]
    · simp
    · intro d hd
      obtain ⟨i, hi, rfl⟩ := mem_rg hd
      have hx : ds[i]? = some ds[i] := List.getElem?_eq_getElem hi
      have hk := like_r (List.all_eq_true.mp ha ds[i] (List.getElem_mem hi))
      refine ⟨[some (.f (.tuple ds)), some (.f (.tuple ds)), some (.f (.int i))], ?_, ?_, fun x hx => by cases hx⟩
      · simp [wipeE]
      · simp [m_law_like_c1, ixD_tn hx, S_likeP, hk]
  simp [runD_r, startE, m_law_like, hc]
open Classical in
theorem sem_like (n : Nat) : ∀ cs c outs, S_like n cs = .ok (c, outs) → cs.length = 2 ∧ runD 3 (m_law_like (S_likeP n)) cs = .ok (c, outs) := by
  intro cs c outs h
  unfold S_like at h
  split at h
  · rename_i a b
    by_cases hc : a = b ∧ lk n b = true
    case neg =>
      rw [if_neg hc] at h
      cases h
    rw [if_pos hc] at h
    obtain ⟨rfl, h2⟩ := hc
    cases h
    refine ⟨rfl, ?_⟩
    cases a with
    | none => exact sl_none n
    | bool b => exact sl_bool n b
    | int i => exact sl_int n i
    | str s => exact sl_str n s (lk_str h2)
    | tuple ds =>
      cases n with
      | zero => cases h2
      | succ n => exact sl_tup n ds (lk_tup h2).1 (lk_tup h2).2
    | list ds => cases n <;> cases h2
    | dict t ks vs => cases n <;> cases h2
    | ro ds => cases n <;> cases h2
  · cases h
end Sh

namespace Md
open PySem L2 DL PyProof.Rows
noncomputable def m_ratio : En → Out :=
  (sSeq (sAsgF 2 (mZ (mL gcdD (aCons (mH (mN (mVar 0))) (aCons (mH (mN (mVar 1))) aNil)))))
    (sSeq (sIf (mBool (m2 ltD (mH (mN (mVar 1))) (mH (mN (mC (.int 0)))))) (sAsgF 2 (mZ (m1 negD (mH (mN (mVar 2)))))) sNext)
    (sRet (mN (mTup (aCons (mZ (m2 fdivD (mH (mN (mVar 0))) (mH (mN (mVar 2))))) (aCons (mZ (m2 fdivD (mH (mN (mVar 1))) (mH (mN (mVar 2))))) aNil)))))))
noncomputable def m_law_gcd_b1 : En → Out :=
  (sSeq (sIf (mBool (m2 eqD (mH (mN (mVar 1))) (mH (mN (mC (.int 0)))))) sBreak sNext)
    (sParN 0 1 (mN (mVar 1)) (mN (mZ (m2 modD (mH (mL intD (aCons (mH (mN (mVar 0))) aNil))) (mH (mN (mVar 1))))))))
noncomputable def m_law_gcd : En → Out :=
  (sSeq (sFor (mRng1 (aCons (mC (.int 300)) aNil)) (tgN 2) m_law_gcd_b1)
    (sRet (mN (mVar 0))))
noncomputable def m_law_ratio (S_law_gcd : Sf) : En → Out :=
  (sSeq (sAsgF 2 (mZ (mCall S_law_gcd (aCons (aD (mZ (mL absD (aCons (mH (mN (mVar 0))) aNil)))) (aCons (aD (mVar 1)) aNil)))))
    (sRet (mN (mTup (aCons (mZ (m2 fdivD (mH (mN (mVar 0))) (mH (mN (mVar 2))))) (aCons (mZ (m2 fdivD (mH (mN (mVar 1))) (mH (mN (mVar 2))))) aNil))))))
end Md
namespace Sh
open PySem L2 DL PyProof.Rows Md
/-! ### gcd and ratio -/
theorem divOk_dvd {g b : Int} {n : Nat} (hg : 0 < g) (hd : g ∣ b) (h : 0 < b) (h2 : b < 2 ^ n) (hn : n ≤ 8000) : DivOk g :=
  divOk_of hg (Int.lt_of_le_of_lt (Int.le_of_dvd h hd) h2) hn
theorem gcd_pos_r {a b : Int} (h : 0 < b) : 0 < (Int.gcd a b : Int) := by
  have := Int.gcd_pos_of_ne_zero_right a (show b ≠ 0 by omega)
  omega
/-- a / b in its lowest terms -/
def redI (a b : Int) : Int × Int := (a / (Int.gcd a b : Int), b / (Int.gcd a b : Int))
def qD (p : Int × Int) : D := .tuple [.int p.1, .int p.2]
noncomputable def S_ratio : Sf
  | [.f (.int a), .f (.int b)] => if 0 < b ∧ b < 2 ^ 4000 then .ok (.f (qD (redI a b)), []) else .no
  | _ => .no
theorem ratio_r {a b : Int} (h : 0 < b) (h2 : b < 2 ^ 4000) : S_ratio [.f (.int a), .f (.int b)] = .ok (.f (qD (redI a b)), []) := if_pos ⟨h, h2⟩
theorem sem_ratio : ∀ cs c outs, S_ratio cs = .ok (c, outs) → cs.length = 2 ∧ runD 3 m_ratio cs = .ok (c, outs) := by
  intro cs c outs h
  unfold S_ratio at h
  split at h
  · rename_i a b
    obtain ⟨⟨h1, h2⟩, h⟩ := ite_ok h
    cases h
    have hg : DivOk (Int.gcd a b : Int) := divOk_dvd (gcd_pos_r h1) (Int.gcd_dvd_right a b) h1 h2 (by decide)
    refine ⟨rfl, ?_⟩
    have hb : decide (b < 0) = false := decide_eq_false (by omega)
    have hg' : DivOk ((a.natAbs.gcd b.natAbs : Nat) : Int) := hg
    simp [runD_r, startE, m_ratio, hb, fdivD_i hg', Int.gcd, qD, redI]
  · cases h
/-- _law_gcd's walk -/
theorem gcd_loop : ∀ (m : Nat) (ds : List D) (a b : Nat) (t : Option D), b < 2 ^ m → 2 * m ≤ ds.length →
    ∃ (b' : Int) (t' : Option D), loopL (tgN 2) m_law_gcd_b1 ds [some (.f (.int (a : Int))), some (.f (.int (b : Int))), t.map .f] = .nx [some (.f (.int ((Nat.gcd a b : Nat) : Int))), some (.f (.int b')), t'.map .f] := by
  have st : ∀ (d : D) (ds : List D) (a b : Nat) (t : Option D), 0 < b → loopL (tgN 2) m_law_gcd_b1 (d :: ds) [some (.f (.int (a : Int))), some (.f (.int (b : Int))), t.map .f] = loopL (tgN 2) m_law_gcd_b1 ds [some (.f (.int (b : Int))), some (.f (.int ((a % b : Nat) : Int))), some (.f d)] := by
    intro d ds a b t hb
    have hb0 : ¬ (b : Int) = 0 := by omega
    have hb1 : (0 : Int) < (b : Int) := by omega
    have hb2 : ¬ b = 0 := by omega
    exact loop_nx (tgN_f (a := t) rfl) (by simp [m_law_gcd_b1, hb0, hb2, modD_i hb1])
  have z : ∀ (ds : List D) (a : Nat) (t : Option D), ∃ (b' : Int) (t' : Option D), loopL (tgN 2) m_law_gcd_b1 ds [some (.f (.int (a : Int))), some (.f (.int ((0 : Nat) : Int))), t.map .f] = .nx [some (.f (.int ((Nat.gcd a 0 : Nat) : Int))), some (.f (.int b')), t'.map .f] := by
    intro ds a t
    rw [Nat.gcd_zero_right]
    cases ds with
    | nil => exact ⟨_, t, rfl⟩
    | cons d ds => exact ⟨0, some d, loop_bk (tgN_f (a := t) rfl) (by simp [m_law_gcd_b1])⟩
  intro m
  induction m with
  | zero =>
    intro ds a b t hb _
    have : b = 0 := by
      have : b < 1 := by simpa using hb
      omega
    subst this
    exact z ds a t
  | succ m ih =>
    intro ds a b t hb hl
    by_cases h0 : b = 0
    · subst h0
      exact z ds a t
    · match ds, hl with
      | d :: d2 :: ds, hl =>
        have hr := Nat.mod_lt a (show b > 0 by omega)
        have e1 : Nat.gcd a b = Nat.gcd b (a % b) := by
          rw [Nat.gcd_comm a b, Nat.gcd_rec b a, Nat.gcd_comm]
        rw [st d _ a b t (by omega), e1]
        by_cases h1 : a % b = 0
        · rw [h1]
          exact z _ b (some d)
        · have e2 : Nat.gcd b (a % b) = Nat.gcd (a % b) (b % (a % b)) := by
            rw [Nat.gcd_comm b, Nat.gcd_rec (a % b) b, Nat.gcd_comm]
          have hr2 := Nat.mod_lt b (show a % b > 0 by omega)
          have hd := Nat.div_add_mod b (a % b)
          have hq : 1 ≤ b / (a % b) := (Nat.le_div_iff_mul_le (by omega)).mpr (by omega)
          have hm : a % b ≤ (a % b) * (b / (a % b)) := Nat.le_mul_of_pos_right _ hq
          have := st d2 ds b (a % b) (some d) (by omega)
          rw [show (some d).map Ce.f = some (.f d) from rfl] at this
          rw [this, e2]
          exact ih ds (a % b) (b % (a % b)) (some d2) (by rw [Nat.pow_succ] at hb; omega) (by simp at hl; omega)
      | [_], hl => simp at hl; omega
      | [], hl => simp at hl
noncomputable def S_gcd : Sf
  | [.f (.int a), .f (.int b)] => if 0 ≤ a ∧ 0 ≤ b ∧ b < 2 ^ 150 then .ok (.f (.int (Int.gcd a b : Int)), []) else .no
  | _ => .no
theorem gcd_r {a b : Int} (h : 0 ≤ a) (h1 : 0 ≤ b) (h2 : b < 2 ^ 150) : S_gcd [.f (.int a), .f (.int b)] = .ok (.f (.int (Int.gcd a b : Int)), []) := if_pos ⟨h, h1, h2⟩
theorem sem_gcd : ∀ cs c outs, S_gcd cs = .ok (c, outs) → cs.length = 2 ∧ runD 3 m_law_gcd cs = .ok (c, outs) := by
  intro cs c outs h
  unfold S_gcd at h
  split at h
  · rename_i a b
    obtain ⟨⟨h0, h1, h2⟩, h⟩ := ite_ok h
    cases h
    refine ⟨rfl, ?_⟩
    obtain ⟨x, rfl⟩ := Int.eq_ofNat_of_zero_le h0
    obtain ⟨y, rfl⟩ := Int.eq_ofNat_of_zero_le h1
    obtain ⟨b', t', g⟩ := gcd_loop 150 (rgD 0 300) x y none (by exact_mod_cast h2) (by rw [rgD_len]; decide)
    rw [show (none : Option D).map Ce.f = none from rfl] at g
    simp [runD_r, startE, m_law_gcd, g]
  · cases h
noncomputable def S_lratio : Sf
  | [.f (.int a), .f (.int b)] => if 0 < b ∧ b < 2 ^ 150 then .ok (.f (qD (redI a b)), []) else .no
  | _ => .no
theorem lratio_r {a b : Int} (h : 0 < b) (h2 : b < 2 ^ 150) : S_lratio [.f (.int a), .f (.int b)] = .ok (.f (qD (redI a b)), []) := if_pos ⟨h, h2⟩
theorem sem_lratio : ∀ cs c outs, S_lratio cs = .ok (c, outs) → cs.length = 2 ∧ runD 3 (m_law_ratio S_gcd) cs = .ok (c, outs) := by
  intro cs c outs h
  unfold S_lratio at h
  split at h
  · rename_i a b
    obtain ⟨⟨h1, h2⟩, h⟩ := ite_ok h
    cases h
    have hg : DivOk (Int.gcd a b : Int) := divOk_dvd (gcd_pos_r h1) (Int.gcd_dvd_right a b) h1 h2 (by decide)
    refine ⟨rfl, ?_⟩
    have e : Int.gcd (if a < 0 then -a else a) b = Int.gcd a b := by
      split
      · exact Int.neg_gcd
      · rfl
    have hc := gcd_r (a := if a < 0 then -a else a) (b := b) (by split <;> omega) (by omega) h2
    rw [e] at hc
    simp [runD_r, startE, m_law_ratio, hc, fdivD_i hg, qD, redI]
  · cases h
end Sh

namespace Md
open PySem L2 DL PyProof.Rows
noncomputable def m_plus (S_ratio : Sf) : En → Out :=
  (sRet (mCall S_ratio (aCons (aD (mZ (m2 addD (mH (m2 mulD (mH (m2 ixD (mH (mN (mVar 0))) (mH (mN (mC (.int 0)))))) (mH (m2 ixD (mH (mN (mVar 1))) (mH (mN (mC (.int 1)))))))) (mH (m2 mulD (mH (m2 ixD (mH (mN (mVar 1))) (mH (mN (mC (.int 0)))))) (mH (m2 ixD (mH (mN (mVar 0))) (mH (mN (mC (.int 1))))))))))) (aCons (aD (mZ (m2 mulD (mH (m2 ixD (mH (mN (mVar 0))) (mH (mN (mC (.int 1)))))) (mH (m2 ixD (mH (mN (mVar 1))) (mH (mN (mC (.int 1))))))))) aNil))))
noncomputable def m_minus (S_ratio : Sf) : En → Out :=
  (sRet (mCall S_ratio (aCons (aD (mZ (m2 subD (mH (m2 mulD (mH (m2 ixD (mH (mN (mVar 0))) (mH (mN (mC (.int 0)))))) (mH (m2 ixD (mH (mN (mVar 1))) (mH (mN (mC (.int 1)))))))) (mH (m2 mulD (mH (m2 ixD (mH (mN (mVar 1))) (mH (mN (mC (.int 0)))))) (mH (m2 ixD (mH (mN (mVar 0))) (mH (mN (mC (.int 1))))))))))) (aCons (aD (mZ (m2 mulD (mH (m2 ixD (mH (mN (mVar 0))) (mH (mN (mC (.int 1)))))) (mH (m2 ixD (mH (mN (mVar 1))) (mH (mN (mC (.int 1))))))))) aNil))))
noncomputable def m_compare : En → Out :=
  (sSeq (sAsgF 2 (mZ (m2 subD (mH (m2 mulD (mH (m2 ixD (mH (mN (mVar 0))) (mH (mN (mC (.int 0)))))) (mH (m2 ixD (mH (mN (mVar 1))) (mH (mN (mC (.int 1)))))))) (mH (m2 mulD (mH (m2 ixD (mH (mN (mVar 1))) (mH (mN (mC (.int 0)))))) (mH (m2 ixD (mH (mN (mVar 0))) (mH (mN (mC (.int 1)))))))))))
    (sSeq (sIf (mBool (m2 eqD (mH (mN (mVar 2))) (mH (mN (mC (.int 0)))))) (sRet (mN (mC (.int 0)))) sNext)
    (sRet (mIf (mBool (m2 gtD (mH (mN (mVar 2))) (mH (mN (mC (.int 0)))))) (mN (mC (.int 1))) (m1 negD (mH (mN (mC (.int 1)))))))))
noncomputable def m_law_plus (S_law_ratio : Sf) : En → Out :=
  (sRet (mCall S_law_ratio (aCons (aD (mZ (m2 addD (mH (m2 mulD (mH (m2 ixD (mH (mN (mVar 0))) (mH (mN (mC (.int 0)))))) (mH (m2 ixD (mH (mN (mVar 1))) (mH (mN (mC (.int 1)))))))) (mH (m2 mulD (mH (m2 ixD (mH (mN (mVar 1))) (mH (mN (mC (.int 0)))))) (mH (m2 ixD (mH (mN (mVar 0))) (mH (mN (mC (.int 1))))))))))) (aCons (aD (mZ (m2 mulD (mH (m2 ixD (mH (mN (mVar 0))) (mH (mN (mC (.int 1)))))) (mH (m2 ixD (mH (mN (mVar 1))) (mH (mN (mC (.int 1))))))))) aNil))))
noncomputable def m_law_minus (S_law_ratio : Sf) : En → Out :=
  (sRet (mCall S_law_ratio (aCons (aD (mZ (m2 subD (mH (m2 mulD (mH (m2 ixD (mH (mN (mVar 0))) (mH (mN (mC (.int 0)))))) (mH (m2 ixD (mH (mN (mVar 1))) (mH (mN (mC (.int 1)))))))) (mH (m2 mulD (mH (m2 ixD (mH (mN (mVar 1))) (mH (mN (mC (.int 0)))))) (mH (m2 ixD (mH (mN (mVar 0))) (mH (mN (mC (.int 1))))))))))) (aCons (aD (mZ (m2 mulD (mH (m2 ixD (mH (mN (mVar 0))) (mH (mN (mC (.int 1)))))) (mH (m2 ixD (mH (mN (mVar 1))) (mH (mN (mC (.int 1))))))))) aNil))))
noncomputable def m_law_less : En → Out :=
  (sRet (m2 ltD (mH (m2 mulD (mH (m2 ixD (mH (mN (mVar 0))) (mH (mN (mC (.int 0)))))) (mH (m2 ixD (mH (mN (mVar 1))) (mH (mN (mC (.int 1)))))))) (mH (m2 mulD (mH (m2 ixD (mH (mN (mVar 1))) (mH (mN (mC (.int 0)))))) (mH (m2 ixD (mH (mN (mVar 0))) (mH (mN (mC (.int 1))))))))))
end Md
namespace Sh
open PySem L2 DL PyProof.Rows Md
/-! ### ratios reckoned -/
def Bg (i : Int) : Prop := i.natAbs < 2 ^ 1500
noncomputable instance (i : Int) : Decidable (Bg i) := Classical.propDecidable _
theorem bg_mul {i j : Int} (h : Bg i) (h2 : Bg j) : MulOk i j := .inr (.inr ⟨Nat.lt_of_lt_of_le h (pow_mono2 (by decide)), Nat.lt_of_lt_of_le h2 (pow_mono2 (by decide))⟩)
theorem bg_le {i : Int} {n : Nat} (h : i.natAbs < 2 ^ n) (hn : n ≤ 1500) : Bg i := Nat.lt_of_lt_of_le h (pow_mono2 hn)
theorem bg_small {i : Int} (h : i.natAbs < 2 ^ 64) : Bg i := bg_le h (by decide)
theorem mul_lt3000 {b d : Int} (h : Bg b) (h2 : Bg d) : b * d < 2 ^ 4000 := by
  have h3 : (b * d).natAbs < 2 ^ 4000 := by
    rw [Int.natAbs_mul]
    have h4 : b.natAbs * d.natAbs ≤ 2 ^ 1500 * 2 ^ 1500 := Nat.mul_le_mul (Nat.le_of_lt h) (Nat.le_of_lt h2)
    rw [← Nat.pow_add] at h4
    exact Nat.lt_of_le_of_lt h4 (Nat.pow_lt_pow_right (by decide) (by decide))
  have h5 : b * d ≤ ((b * d).natAbs : Int) := Int.le_natAbs
  have h6 : (((b * d).natAbs : Nat) : Int) < ((2 ^ 4000 : Nat) : Int) := Int.ofNat_lt.mpr h3
  rw [Int.natCast_pow] at h6
  exact Int.lt_of_le_of_lt h5 h6
noncomputable def S_plus : Sf
  | [.f (.tuple [.int a, .int b]), .f (.tuple [.int c, .int d])] => if 0 < b * d ∧ Bg a ∧ Bg b ∧ Bg c ∧ Bg d then .ok (.f (qD (redI (a * d + c * b) (b * d))), []) else .no
  | _ => .no
noncomputable def S_minus : Sf
  | [.f (.tuple [.int a, .int b]), .f (.tuple [.int c, .int d])] => if 0 < b * d ∧ Bg a ∧ Bg b ∧ Bg c ∧ Bg d then .ok (.f (qD (redI (a * d - c * b) (b * d))), []) else .no
  | _ => .no
noncomputable def S_lplus : Sf
  | [.f (.tuple [.int a, .int b]), .f (.tuple [.int c, .int d])] => if 0 < b * d ∧ b * d < 2 ^ 150 ∧ Bg a ∧ Bg b ∧ Bg c ∧ Bg d then .ok (.f (qD (redI (a * d + c * b) (b * d))), []) else .no
  | _ => .no
noncomputable def S_lminus : Sf
  | [.f (.tuple [.int a, .int b]), .f (.tuple [.int c, .int d])] => if 0 < b * d ∧ b * d < 2 ^ 150 ∧ Bg a ∧ Bg b ∧ Bg c ∧ Bg d then .ok (.f (qD (redI (a * d - c * b) (b * d))), []) else .no
  | _ => .no
noncomputable def S_less : Sf
  | [.f (.tuple [.int a, .int b]), .f (.tuple [.int c, .int d])] => if Bg a ∧ Bg b ∧ Bg c ∧ Bg d then .ok (.f (.bool (decide (a * d < c * b))), []) else .no
  | _ => .no
noncomputable def S_compare : Sf
  | [.f (.tuple [.int a, .int b]), .f (.tuple [.int c, .int d])] => if Bg a ∧ Bg b ∧ Bg c ∧ Bg d then .ok (.f (.int (if a * d - c * b = 0 then 0 else if 0 < a * d - c * b then 1 else -1)), []) else .no
  | _ => .no
theorem sem_plus : ∀ cs c outs, S_plus cs = .ok (c, outs) → cs.length = 2 ∧ runD 2 (m_plus S_ratio) cs = .ok (c, outs) := by
  intro cs c outs h
  unfold S_plus at h
  split at h
  · rename_i a b c d
    obtain ⟨⟨h1, h2, h3, h4, h5⟩, h⟩ := ite_ok h
    cases h
    have hr := ratio_r (a := a * d + c * b) h1 (mul_lt3000 h3 h5)
    exact ⟨rfl, by simp [runD_r, startE, m_plus, mulD_i (bg_mul h2 h5), mulD_i (bg_mul h4 h3), mulD_i (bg_mul h3 h5), hr]⟩
  · cases h
theorem sem_minus : ∀ cs c outs, S_minus cs = .ok (c, outs) → cs.length = 2 ∧ runD 2 (m_minus S_ratio) cs = .ok (c, outs) := by
  intro cs c outs h
  unfold S_minus at h
  split at h
  · rename_i a b c d
    obtain ⟨⟨h1, h2, h3, h4, h5⟩, h⟩ := ite_ok h
    cases h
    have hr := ratio_r (a := a * d - c * b) h1 (mul_lt3000 h3 h5)
    exact ⟨rfl, by simp [runD_r, startE, m_minus, mulD_i (bg_mul h2 h5), mulD_i (bg_mul h4 h3), mulD_i (bg_mul h3 h5), hr]⟩
  · cases h
theorem sem_lplus : ∀ cs c outs, S_lplus cs = .ok (c, outs) → cs.length = 2 ∧ runD 2 (m_law_plus S_lratio) cs = .ok (c, outs) := by
  intro cs c outs h
  unfold S_lplus at h
  split at h
  · rename_i a b c d
    obtain ⟨⟨h1, h0, h2, h3, h4, h5⟩, h⟩ := ite_ok h
    cases h
    have hr := lratio_r (a := a * d + c * b) h1 h0
    exact ⟨rfl, by simp [runD_r, startE, m_law_plus, mulD_i (bg_mul h2 h5), mulD_i (bg_mul h4 h3), mulD_i (bg_mul h3 h5), hr]⟩
  · cases h
theorem sem_lminus : ∀ cs c outs, S_lminus cs = .ok (c, outs) → cs.length = 2 ∧ runD 2 (m_law_minus S_lratio) cs = .ok (c, outs) := by
  intro cs c outs h
  unfold S_lminus at h
  split at h
  · rename_i a b c d
    obtain ⟨⟨h1, h0, h2, h3, h4, h5⟩, h⟩ := ite_ok h
    cases h
    have hr := lratio_r (a := a * d - c * b) h1 h0
    exact ⟨rfl, by simp [runD_r, startE, m_law_minus, mulD_i (bg_mul h2 h5), mulD_i (bg_mul h4 h3), mulD_i (bg_mul h3 h5), hr]⟩
  · cases h
theorem sem_less : ∀ cs c outs, S_less cs = .ok (c, outs) → cs.length = 2 ∧ runD 2 m_law_less cs = .ok (c, outs) := by
  intro cs c outs h
  unfold S_less at h
  split at h
  · rename_i a b c d
    obtain ⟨⟨h2, h3, h4, h5⟩, h⟩ := ite_ok h
    cases h
    exact ⟨rfl, by simp [runD_r, startE, m_law_less, mulD_i (bg_mul h2 h5), mulD_i (bg_mul h4 h3)]⟩
  · cases h
theorem sem_compare : ∀ cs c outs, S_compare cs = .ok (c, outs) → cs.length = 2 ∧ runD 3 m_compare cs = .ok (c, outs) := by
  intro cs c outs h
  unfold S_compare at h
  split at h
  · rename_i a b c d
    obtain ⟨⟨h2, h3, h4, h5⟩, h⟩ := ite_ok h
    cases h
    refine ⟨rfl, ?_⟩
    by_cases h0 : a * d - c * b = 0
    · simp [runD_r, startE, m_compare, mulD_i (bg_mul h2 h5), mulD_i (bg_mul h4 h3), h0]
    · by_cases h1 : c * b < a * d
      · simp [runD_r, startE, m_compare, mulD_i (bg_mul h2 h5), mulD_i (bg_mul h4 h3), h0, h1]
      · simp [runD_r, startE, m_compare, mulD_i (bg_mul h2 h5), mulD_i (bg_mul h4 h3), h0, h1]
  · cases h
end Sh

namespace Md
open PySem L2 DL PyProof.Rows
noncomputable def m_law_pick (S_law_draw : Sf) : En → Out :=
  (sRet (m2 ixD (mH (mN (mVar 1))) (mH (m2 modD (mH (mL intD (aCons (mH (mCall S_law_draw (aCons (aS 0) (aCons (aD (mC (.int 900))) aNil)))) aNil))) (mH (mL lenD (aCons (mH (mN (mVar 1))) aNil)))))))
end Md
namespace Sh
open PySem L2 DL PyProof.Rows Md
/-- _law_pick -/
noncomputable def S_law_pick : Sf
  | [.l true [.list xs, .int a], .f (.list ts)] => if 0 ≤ a ∧ a < 2 ^ 62 ∧ xs.all D.isI = true ∧ 0 < ts.length then .ok (.f ((ts[(dv xs a 900 % (ts.length : Int)).toNat]?).getD .none), [.l true [.list xs, .int (a + 1)]]) else .no
  | _ => .no
theorem pick_fin {xs ts : List D} {a w i : Int} {d : D} (h1 : S_draw [.l true [.list xs, .int a], .f (.int 900)] = .ok (.f (.int w), [.l true [.list xs, .int (a + 1)]])) (h2 : modD (.int w) (.int (ts.length : Int)) = .ok (.f (.int i))) (h3 : ixD (.list ts) (.int i) = .ok (.f d)) :
    runD 2 (m_law_pick S_draw) [.l true [.list xs, .int a], .f (.list ts)] = .ok (.f d, [.l true [.list xs, .int (a + 1)]]) := by
  simp [runD_r, startE, m_law_pick, h1, h2, h3]
theorem sem_law_pick : ∀ cs c outs, S_law_pick cs = .ok (c, outs) → cs.length = 2 ∧ runD 2 (m_law_pick S_draw) cs = .ok (c, outs) := by
  intro cs c outs h
  unfold S_law_pick at h
  split at h
  · rename_i xs a ts
    obtain ⟨⟨h1, h2, h3, h4⟩, h⟩ := ite_ok h
    cases h
    have d1 := draw_r h3 h1 h2 (m := 900) (by decide) (by decide)
    have hl : (0 : Int) < (ts.length : Int) := by omega
    have i0 := Int.emod_nonneg (dv xs a 900) (show (ts.length : Int) ≠ 0 by omega)
    have i1 := Int.emod_lt_of_pos (dv xs a 900) hl
    have hx : ts[(dv xs a 900 % (ts.length : Int)).toNat]? = some (ts[(dv xs a 900 % (ts.length : Int)).toNat]'(by omega)) := List.getElem?_eq_getElem (by omega)
    rw [hx]
    exact ⟨rfl, pick_fin d1 (modD_i hl) (ixD_lN i0 hx)⟩
  · cases h
/-- a pick from a list -/
theorem pick_r {xs ts : List D} {a : Int} (hx : xs.all D.isI = true) (h1 : 0 ≤ a) (h2 : a < 2 ^ 62) (hl : 0 < ts.length) : ∃ (k : Nat) (d : D), ts[k]? = some d ∧ S_law_pick [.l true [.list xs, .int a], .f (.list ts)] = .ok (.f d, [.l true [.list xs, .int (a + 1)]]) := by
  have hS : S_law_pick [.l true [.list xs, .int a], .f (.list ts)] = .ok (.f ((ts[(dv xs a 900 % (ts.length : Int)).toNat]?).getD .none), [.l true [.list xs, .int (a + 1)]]) := if_pos ⟨h1, h2, hx, hl⟩
  have i0 := Int.emod_nonneg (dv xs a 900) (show (ts.length : Int) ≠ 0 by omega)
  have i1 := Int.emod_lt_of_pos (dv xs a 900) (show (0 : Int) < (ts.length : Int) by omega)
  have hx : ts[(dv xs a 900 % (ts.length : Int)).toNat]? = some (ts[(dv xs a 900 % (ts.length : Int)).toNat]'(by omega)) := List.getElem?_eq_getElem (by omega)
  rw [hx] at hS
  exact ⟨_, _, hx, hS⟩
end Sh

namespace Md
open PySem L2 DL PyProof.Rows
noncomputable def m_count : En → Out :=
  (sRet (m2 fdivD (mH (m2 addD (mH (m2 mulD (mH (mN (mVar 0))) (mH (mN (mVar 3))))) (mH (mN (mVar 2))))) (mH (mN (mVar 1)))))
noncomputable def m_even_word_e1 (S_count : Sf) : M D :=
  (mZ (mCall S_count (aCons (aD (mVar 0)) (aCons (aD (mVar 1)) (aCons (aD (mVar 2)) (aCons (aD (mVar 4)) aNil))))))
noncomputable def m_even_word_e2 : M D :=
  (mZ (m2 subD (mH (mN (mVar 6))) (mH (mN (mVar 5)))))
noncomputable def m_even_word (S_count : Sf) : En → Out :=
  (sSeq (sAsgF 3 (mZ (mComp (mRng1 (aCons (mZ (m2 addD (mH (mN (mVar 1))) (mH (mN (mC (.int 1)))))) aNil)) (tgN 4) [4] mYes (m_even_word_e1 S_count))))
    (sRet (mL tupleD (aCons (mH (mComp (mZip (mVar 3) (mZ (mSlice (mH (mN (mVar 3))) (mO1 (mC (.int 1))) mO0))) (tgT [(tgN 5), (tgN 6)]) [5, 6] mYes m_even_word_e2)) aNil))))
noncomputable def m_place_of_one : En → Out :=
  (sRet (m2 fdivD (mH (m2 subD (mH (m2 subD (mH (m2 mulD (mH (mN (mVar 1))) (mH (m2 addD (mH (mN (mVar 3))) (mH (mN (mC (.int 1)))))))) (mH (mN (mVar 2))))) (mH (mN (mC (.int 1)))))) (mH (mN (mVar 0)))))
noncomputable def m_evenness_b1 : En → Out :=
  (sSeq (sAug iaddD 3 (mZ (m2 subD (mH (m2 mulD (mH (mN (mVar 1))) (mH (mN (mVar 6))))) (mH (mN (mVar 2))))))
    (sSeq (sAsgF 4 (mZ (mL minD (aCons (mH (mN (mVar 4))) (aCons (mH (mN (mVar 3))) aNil)))))
    (sAsgF 5 (mZ (mL maxD (aCons (mH (mN (mVar 5))) (aCons (mH (mN (mVar 3))) aNil)))))))
noncomputable def m_evenness (S_uneven : Sf) : En → Out :=
  (sSeq (sAsgF 1 (mZ (mL lenD (aCons (mH (mN (mVar 0))) aNil))))
    (sSeq (sAsgF 2 (mZ (mL sumD (aCons (mH (mN (mVar 0))) aNil))))
    (sSeq (sTgt (tgT [(tgN 3), (tgN 4), (tgN 5)]) (mTup (aCons (mC (.int 0)) (aCons (mC (.int 0)) (aCons (mC (.int 0)) aNil)))))
    (sSeq (sFor (mSeqA (mVar 0)) (tgN 6) m_evenness_b1)
    (sSeq (sIf (mBool (m2 ltD (mH (m2 subD (mH (mN (mVar 5))) (mH (mN (mVar 4))))) (mH (mN (mVar 1))))) (sRet (mN (mTup (aCons (mC (.str "even")) (aCons (mVar 5) aNil))))) sNext)
    (sRet (mCall S_uneven (aCons (aD (mVar 0)) aNil))))))))
noncomputable def m_uneven_b1 : En → Out :=
  (sApp 1 (mZ (m2 addD (mH (m2 ixD (mSl 1) (mH (m1 negD (mH (mN (mC (.int 1)))))))) (mH (mN (mVar 2))))))
noncomputable def m_uneven_e1 : M D :=
  (mZ (m2 subD (mH (m2 ixD (mSl 1) (mH (m2 addD (mH (mN (mVar 2))) (mH (mN (mVar 3))))))) (mH (m2 ixD (mSl 1) (mH (mN (mVar 2)))))))
noncomputable def m_uneven_b2 : En → Out :=
  (sSeq (sAsgF 4 (mZ (mComp (mRng1 (aCons (mZ (mL lenD (aCons (mH (mN (mVar 0))) aNil))) aNil)) (tgN 2) [2] mYes m_uneven_e1)))
    (sIf (mBool (m2 gtD (mH (m2 subD (mH (mL maxD (aCons (mH (mN (mVar 4))) aNil))) (mH (mL minD (aCons (mH (mN (mVar 4))) aNil))))) (mH (mN (mC (.int 1)))))) (sRet (mN (mTup (aCons (mC (.str "uneven")) (aCons (mVar 3) (aCons (mZ (mIndex (mVar 4) (mZ (mL minD (aCons (mH (mN (mVar 4))) aNil))))) (aCons (mZ (mIndex (mVar 4) (mZ (mL maxD (aCons (mH (mN (mVar 4))) aNil))))) aNil))))))) sNext))
noncomputable def m_uneven : En → Out :=
  (sSeq (sAsg 1 (mLst (aCons (mC (.int 0)) aNil)))
    (sSeq (sFor (mSeqA (mZ (m2 addD (mH (mN (mVar 0))) (mH (mN (mVar 0)))))) (tgN 2) m_uneven_b1)
    (sSeq (sFor (mRng2 (aCons (mC (.int 1)) (aCons (mZ (mL lenD (aCons (mH (mN (mVar 0))) aNil))) aNil))) (tgN 3) m_uneven_b2)
    (sRet (mN (mC .none))))))
end Md
namespace ShW
/-! ### plain facts: words and their windows -/
def sumN (f : Nat → Int) : Nat → Int
  | 0 => 0
  | n + 1 => sumN f n + f n
theorem sumN_sub (f g : Nat → Int) : ∀ n, sumN (fun k => f k - g k) n = sumN f n - sumN g n
  | 0 => rfl
  | n + 1 => by simp only [sumN]; rw [sumN_sub f g n]; omega
theorem sumN_shift (P : Nat → Int) (l : Nat) : ∀ n, sumN (fun k => P (k + (l + 1))) n = sumN (fun k => P (k + l)) n - P l + P (n + l)
  | 0 => by simp [sumN]; omega
  | n + 1 => by
    simp only [sumN]
    rw [sumN_shift P l n, show n + (l + 1) = n + 1 + l by omega]
    omega
/-- the counts ahead of a word that goes round -/
structure Per (P : Nat → Int) (b : Nat) (a : Int) : Prop where
  b0 : 0 < b
  z : P 0 = 0
  per : ∀ k, k ≤ b → P (k + b) = P k + a
theorem Per.shift {P : Nat → Int} {b : Nat} {a : Int} (h : Per P b a) : ∀ l, l ≤ b → sumN (fun k => P (k + l)) b = sumN P b + a * l
  | 0, _ => by simp
  | l + 1, hl => by
    rw [sumN_shift, h.shift l (by omega), show b + l = l + b by omega, h.per l (by omega), Int.natCast_add, Int.mul_add]
    omega
def win (P : Nat → Int) (l k : Nat) : Int := P (k + l) - P k
theorem Per.wins {P : Nat → Int} {b : Nat} {a : Int} (h : Per P b a) {l : Nat} (hl : l ≤ b) : sumN (win P l) b = a * l := by
  have := sumN_sub (fun k => P (k + l)) P b
  rw [h.shift l hl] at this
  show sumN (fun k => P (k + l) - P k) b = a * l
  omega
theorem sumN_low {f : Nat → Int} {c : Int} : ∀ n, (∀ k, k < n → c ≤ f k) → c * n ≤ sumN f n
  | 0, _ => by simp [sumN]
  | n + 1, h => by
    have h1 := sumN_low n fun k hk => h k (by omega)
    have h2 := h n (by omega)
    simp only [sumN, Int.natCast_add, Int.mul_add]
    omega
theorem sumN_low1 {f : Nat → Int} {c d : Int} {j : Nat} (hj : c + d ≤ f j) : ∀ n, j < n → (∀ k, k < n → c ≤ f k) → c * n + d ≤ sumN f n
  | 0, h, _ => by omega
  | n + 1, hn, h => by
    have h2 := h n (by omega)
    simp only [sumN, Int.natCast_add, Int.mul_add]
    rcases Nat.lt_or_ge j n with z | z
    · have := sumN_low1 hj n z fun k hk => h k (by omega)
      omega
    · have : j = n := by omega
      subst this
      have := sumN_low j fun k hk => h k (by omega)
      omega
def off (P : Nat → Int) (b : Nat) (a : Int) (k : Nat) : Int := b * P k - a * k
theorem off_win {P : Nat → Int} {b : Nat} {a : Int} {l k : Nat} : (b : Int) * win P l k = a * l + (off P b a (k + l) - off P b a k) := by
  unfold win off
  rw [Int.mul_sub, Int.natCast_add, Int.mul_add]
  omega
theorem Per.off_per {P : Nat → Int} {b : Nat} {a : Int} (h : Per P b a) {k : Nat} (hk : k ≤ b) : off P b a (k + b) = off P b a k := by
  unfold off
  rw [h.per k hk, Int.mul_add, Int.natCast_add, Int.mul_add, Int.mul_comm a (b : Int)]
  omega
/-- windows that differ by one at most: offsets that differ by less than b -/
theorem Per.conv {P : Nat → Int} {b : Nat} {a : Int} (h : Per P b a) (hw : ∀ l, 1 ≤ l → l < b → ∀ i j, i < b → j < b → win P l i - win P l j ≤ 1) {i j : Nat} (hi : i < b) (hj : j < b) : off P b a i - off P b a j < b := by
  rcases Int.lt_or_le (off P b a i - off P b a j) b with z | z
  · exact z
  exfalso
  have hb := h.b0
  have key : ∃ l, 1 ≤ l ∧ l < b ∧ off P b a (j + l) = off P b a i := by
    rcases Nat.lt_trichotomy i j with q | q | q
    · exact ⟨i + b - j, by omega, by omega, by rw [show j + (i + b - j) = i + b by omega, h.off_per (by omega)]⟩
    · subst q; omega
    · exact ⟨i - j, by omega, by omega, by rw [show j + (i - j) = i by omega]⟩
  obtain ⟨l, l1, l2, e⟩ := key
  have ej := off_win (P := P) (b := b) (a := a) (l := l) (k := j)
  rw [e] at ej
  -- every window is at least this one less one
  have all : ∀ k, k < b → a * l ≤ b * win P l k := fun k hk => by
    have h1 := hw l l1 l2 j k hj hk
    have h2 : (b : Int) * (win P l j - 1) ≤ b * win P l k := Int.mul_le_mul_of_nonneg_left (by omega) (by omega)
    rw [Int.mul_sub] at h2
    omega
  have tot := sumN_low1 (f := fun k => (b : Int) * win P l k) (c := a * l) (d := b) (j := j) (by show a * l + b ≤ b * win P l j; omega) b hj all
  have lin : ∀ n, sumN (fun k => (b : Int) * win P l k) n = b * sumN (win P l) n := fun n => by
    induction n with
    | zero => simp [sumN]
    | succ n ih => simp only [sumN]; rw [ih, Int.mul_add]
  rw [lin, h.wins (by omega), Int.mul_comm (a * l) (b : Int)] at tot
  omega
/-- offsets near together: the counts are those of the formula -/
theorem floor_of {b : Nat} {a : Int} {k : Nat} {p g : Int} (h1 : (b : Int) * p - a * k ≤ g) (h2 : g - b < (b : Int) * p - a * k) : (a * k + g) / b = p := by
  have hb : (0 : Int) < b := by omega
  have h3 : (a * k + g) = (a * k + g - b * p) + b * p := by omega
  rw [h3, Int.add_mul_ediv_left _ _ (by omega), Int.ediv_eq_zero_of_lt (by omega) (by omega)]
  omega
theorem floor_le {b : Nat} {a : Int} {k : Nat} {g : Int} (hb : 0 < b) : (b : Int) * ((a * k + g) / b) - a * k ≤ g := by
  have := Int.mul_ediv_self_le (x := a * k + g) (k := (b : Int)) (by omega)
  omega
theorem floor_win {b : Nat} {x y : Int} (hb : 0 < b) : (x + y) / b - x / b = y / b ∨ (x + y) / b - x / b = y / b + 1 := by
  have e1 := Int.mul_ediv_add_emod x b
  have e2 := Int.mul_ediv_add_emod y b
  have p1 := Int.emod_nonneg x (b := b) (by omega)
  have p2 := Int.emod_nonneg y (b := b) (by omega)
  have l1 := Int.emod_lt_of_pos x (b := b) (by omega)
  have l2 := Int.emod_lt_of_pos y (b := b) (by omega)
  have e3 : x + y = (x % b + y % b) + b * (x / b + y / b) := by rw [Int.mul_add]; omega
  rw [e3, Int.add_mul_ediv_left _ _ (by omega)]
  have q : (x % b + y % b) / b = 0 ∨ (x % b + y % b) / b = 1 := by
    rcases Int.lt_or_le (x % b + y % b) b with z | z
    · left; exact Int.ediv_eq_zero_of_lt (by omega) z
    · right
      rw [show x % b + y % b = (x % b + y % b - b) + b * 1 by omega, Int.add_mul_ediv_left _ _ (by omega), Int.ediv_eq_zero_of_lt (by omega) (by omega)]
      rfl
  omega
/-- the counts of the formula: windows differ by one at most -/
theorem even_wins {P : Nat → Int} {b : Nat} {a g : Int} (hb : 0 < b) {m : Nat} (hP : ∀ k, k ≤ m → P k = (a * k + g) / b) {l i j : Nat} (hi : i + l ≤ m) (hj : j + l ≤ m) : win P l i - win P l j ≤ 1 := by
  have hh : ∀ i, i + l ≤ m → win P l i = (a * l) / b ∨ win P l i = (a * l) / b + 1 := fun i hi => by
    unfold win
    rw [hP _ hi, hP i (by omega), show a * ((i + l : Nat) : Int) + g = (a * i + g) + a * l by rw [Int.natCast_add, Int.mul_add]; omega]
    exact floor_win hb
  have h1 := hh i hi
  have h2 := hh j hj
  omega
end ShW
namespace ShW
/-! ### plain facts: places of ones; two calendars of one rule -/
theorem ediv_is {x b q : Int} (hb : 0 < b) (h1 : b * q ≤ x) (h2 : x < b * q + b) : x / b = q := by
  rw [show x = (x - b * q) + b * q by omega, Int.add_mul_ediv_left _ _ (by omega), Int.ediv_eq_zero_of_lt (by omega) (by omega)]
  omega
theorem place_ok {a b c j : Int} (ha : 0 < a) (hab : a ≤ b) : (a * ((b * (j + 1) - c - 1) / a) + c) / b = j ∧ (a * ((b * (j + 1) - c - 1) / a + 1) + c) / b = j + 1 := by
  have e := Int.mul_ediv_add_emod (b * (j + 1) - c - 1) a
  have p := Int.emod_nonneg (b * (j + 1) - c - 1) (b := a) (by omega)
  have l := Int.emod_lt_of_pos (b * (j + 1) - c - 1) ha
  generalize (b * (j + 1) - c - 1) / a = q at *
  generalize (b * (j + 1) - c - 1) % a = r at *
  rw [Int.mul_add] at e
  constructor
  · exact ediv_is (by omega) (by omega) (by omega)
  · rw [Int.mul_add]
    exact ediv_is (by omega) (by rw [Int.mul_add]; omega) (by rw [Int.mul_add]; omega)
def gap (a b c d n : Int) : Int := (a * n + c) / b - (a * n + d) / b
/-- the rest of a*n and what stands at it -/
theorem gap_eq {a b c d n : Int} (hb : 0 < b) : gap a b c d n = (a * n % b + c) / b - (a * n % b + d) / b := by
  unfold gap
  have e := Int.mul_ediv_add_emod (a * n) b
  rw [show a * n + c = (a * n % b + c) + b * (a * n / b) by omega, show a * n + d = (a * n % b + d) + b * (a * n / b) by omega, Int.add_mul_ediv_left _ _ (by omega), Int.add_mul_ediv_left _ _ (by omega)]
  omega
theorem step01 {b r c : Int} (hb : 0 < b) (r0 : 0 ≤ r) (r1 : r < b) (c0 : 0 ≤ c) (c1 : c < b) : (r + c) / b = if b ≤ r + c then 1 else 0 := by
  split
  · exact ediv_is hb (by omega) (by omega)
  · exact ediv_is hb (by omega) (by omega)
theorem bez (a b : Nat) : ∃ x y : Int, (Nat.gcd a b : Int) = a * x + b * y := by
  induction a, b using Nat.gcd.induction with
  | H0 n => exact ⟨0, 1, by simp⟩
  | H1 m n hm ih =>
    obtain ⟨x, y, h⟩ := ih
    rw [← Nat.gcd_rec] at h
    refine ⟨y - (n / m : Nat) * x, x, ?_⟩
    have e : ((n % m : Nat) : Int) = (n : Int) - m * (n / m : Nat) := by
      have := Nat.div_add_mod n m
      have := Int.ofNat_inj.mpr this
      rw [Int.natCast_add, Int.natCast_mul] at this
      omega
    rw [h, e, Int.sub_mul, Int.mul_sub, Int.mul_assoc]
    omega
/-- every multiple of the gcd is a rest -/
theorem rest_hit (a b : Nat) (hb : 0 < b) (m : Int) (hm0 : 0 ≤ (Nat.gcd a b : Int) * m) (hm1 : (Nat.gcd a b : Int) * m < b) : ∃ n : Int, 0 ≤ n ∧ n < b ∧ (a : Int) * n % b = Nat.gcd a b * m := by
  obtain ⟨x, y, hg⟩ := bez a b
  refine ⟨(x * m) % b, Int.emod_nonneg _ (by omega), Int.emod_lt_of_pos _ (by omega), ?_⟩
  rw [Int.mul_emod, Int.emod_emod_of_dvd _ (Int.dvd_refl (b : Int)), ← Int.mul_emod]
  have e : (a : Int) * (x * m) = Nat.gcd a b * m + b * (-(y * m)) := by
    rw [hg, Int.add_mul, Int.mul_neg, Int.mul_assoc, Int.mul_assoc]
    omega
  rw [e, Int.add_mul_emod_self_left, Int.emod_eq_of_lt hm0 hm1]
theorem rest_mul (a b : Nat) (n : Int) : ∃ m : Int, (a : Int) * n % b = Nat.gcd a b * m := by
  have h1 : ((Nat.gcd a b : Nat) : Int) ∣ (a : Int) := Int.natCast_dvd_natCast.mpr (Nat.gcd_dvd_left a b)
  have h2 : ((Nat.gcd a b : Nat) : Int) ∣ (b : Int) := Int.natCast_dvd_natCast.mpr (Nat.gcd_dvd_right a b)
  rw [Int.emod_def]
  exact Int.dvd_sub (Int.dvd_mul_of_dvd_left h1) (Int.dvd_mul_of_dvd_left h2)
/-- one calendar is never behind; where it is ahead -/
theorem gaps_le {a b : Nat} {c d : Int} (hb : 0 < b) (c0 : 0 ≤ c) (c1 : c < b) (d0 : 0 ≤ d) (d1 : d < b) {n : Int} : gap a b c d n = (if (b : Int) ≤ (a : Int) * n % b + c then 1 else 0) - (if (b : Int) ≤ (a : Int) * n % b + d then 1 else 0) := by
  have r0 := Int.emod_nonneg ((a : Int) * n) (b := b) (by omega)
  have r1 := Int.emod_lt_of_pos ((a : Int) * n) (b := b) (by omega)
  rw [gap_eq (by omega), step01 (by omega) r0 r1 c0 c1, step01 (by omega) r0 r1 d0 d1]
theorem gap_one {a b : Nat} {c d : Int} (hb : 0 < b) (c0 : 0 ≤ c) (c1 : c < b) (d0 : 0 ≤ d) (d1 : d < b) {n : Int} (h : gap a b c d n = 1) : d / (Nat.gcd a b : Int) < c / (Nat.gcd a b : Int) := by
  have hg : 0 < Nat.gcd a b := Nat.gcd_pos_of_pos_right _ hb
  rw [gaps_le hb c0 c1 d0 d1] at h
  obtain ⟨m, hm⟩ := rest_mul a b n
  obtain ⟨B, hB⟩ := Nat.gcd_dvd_right a b
  have hB' : (b : Int) = (Nat.gcd a b : Int) * (B : Int) := by rw [← Int.natCast_mul, ← hB]
  generalize (Nat.gcd a b) = g at *
  rw [hm] at h
  have k1 : (b : Int) ≤ (g : Int) * m + c ∧ ¬ (b : Int) ≤ (g : Int) * m + d := by
    by_cases p : (b : Int) ≤ (g : Int) * m + c <;> by_cases q : (b : Int) ≤ (g : Int) * m + d <;> simp [p, q] at h ⊢
  obtain ⟨k1, k2⟩ := k1
  have e1 : (g : Int) * ((B : Int) - m) ≤ c := by rw [Int.mul_sub]; omega
  have e2 : d < (g : Int) * ((B : Int) - m) := by rw [Int.mul_sub]; omega
  have f1 : (B : Int) - m ≤ c / g := Int.le_ediv_of_mul_le (by omega) (by rw [Int.mul_comm]; exact e1)
  have f2 : d / g < (B : Int) - m := Int.ediv_lt_of_lt_mul (by omega) (by rw [Int.mul_comm]; exact e2)
  omega
theorem gap_hit {a b : Nat} {c d : Int} (hb : 0 < b) (c0 : 0 ≤ c) (c1 : c < b) (d0 : 0 ≤ d) (d1 : d < b) (h : d / (Nat.gcd a b : Int) < c / (Nat.gcd a b : Int)) : ∃ n : Int, 0 ≤ n ∧ n < b ∧ gap a b c d n = 1 := by
  have hg : 0 < Nat.gcd a b := Nat.gcd_pos_of_pos_right _ hb
  obtain ⟨B, hB⟩ := Nat.gcd_dvd_right a b
  have hB' : (b : Int) = (Nat.gcd a b : Int) * (B : Int) := by rw [← Int.natCast_mul, ← hB]
  have e1 := Int.mul_ediv_self_le (x := c) (k := (Nat.gcd a b : Int)) (by omega)
  have e2 := Int.lt_mul_ediv_self_add (x := d) (k := (Nat.gcd a b : Int)) (by omega)
  have q0 : 0 ≤ d / (Nat.gcd a b : Int) := Int.ediv_nonneg d0 (by omega)
  have e3 : (Nat.gcd a b : Int) * (d / (Nat.gcd a b : Int) + 1) ≤ (Nat.gcd a b : Int) * (c / (Nat.gcd a b : Int)) := Int.mul_le_mul_of_nonneg_left (by omega) (by omega)
  rw [Int.mul_add] at e3
  have e4 : (Nat.gcd a b : Int) * 1 ≤ (Nat.gcd a b : Int) * (c / (Nat.gcd a b : Int)) := Int.mul_le_mul_of_nonneg_left (by omega) (by omega)
  have e5 : (Nat.gcd a b : Int) * ((B : Int) - c / (Nat.gcd a b : Int)) = b - (Nat.gcd a b : Int) * (c / (Nat.gcd a b : Int)) := by rw [Int.mul_sub]; omega
  obtain ⟨n, n0, n1, hn⟩ := rest_hit a b hb ((B : Int) - c / (Nat.gcd a b : Int)) (by omega) (by omega)
  refine ⟨n, n0, n1, ?_⟩
  rw [gaps_le hb c0 c1 d0 d1, hn, if_pos (by omega), if_neg (by omega)]
  rfl
theorem gap_neg {a b c d n : Int} : gap a b c d n = - gap a b d c n := by unfold gap; omega
theorem gap_rng {a b : Nat} {c d : Int} (hb : 0 < b) (c0 : 0 ≤ c) (c1 : c < b) (d0 : 0 ≤ d) (d1 : d < b) (n : Int) : -1 ≤ gap a b c d n ∧ gap a b c d n ≤ 1 := by
  rw [gaps_le hb c0 c1 d0 d1]
  by_cases p : (b : Int) ≤ (a : Int) * n % b + c <;> by_cases q : (b : Int) ≤ (a : Int) * n % b + d <;> simp [p, q]
theorem gap_zero {a b : Nat} {c d : Int} (hb : 0 < b) (c0 : 0 ≤ c) (c1 : c < b) (d0 : 0 ≤ d) (d1 : d < b) : gap a b c d 0 = 0 := by
  unfold gap
  rw [Int.mul_zero, Int.zero_add, Int.zero_add, Int.ediv_eq_zero_of_lt c0 c1, Int.ediv_eq_zero_of_lt d0 d1]
  rfl
/-- what apart tells -/
def apartV (a b : Nat) (c d : Int) : Int × Int :=
  if c / (Nat.gcd a b : Int) > d / (Nat.gcd a b : Int) then (0, 1) else if c / (Nat.gcd a b : Int) < d / (Nat.gcd a b : Int) then (-1, 0) else (0, 0)
theorem apart_low {a b : Nat} {c d : Int} (hb : 0 < b) (c0 : 0 ≤ c) (c1 : c < b) (d0 : 0 ≤ d) (d1 : d < b) : (∀ n : Int, (apartV a b c d).1 ≤ gap a b c d n ∧ gap a b c d n ≤ (apartV a b c d).2) ∧ (∃ n : Nat, n < b ∧ gap a b c d n = (apartV a b c d).1) ∧ ∃ n : Nat, n < b ∧ gap a b c d n = (apartV a b c d).2 := by
  have z := gap_zero (a := a) hb c0 c1 d0 d1
  have toN : ∀ {v : Int}, (∃ n : Int, 0 ≤ n ∧ n < b ∧ gap a b c d n = v) → ∃ n : Nat, n < b ∧ gap a b c d n = v := fun ⟨n, n0, n1, h⟩ => by
    obtain ⟨m, rfl⟩ := Int.eq_ofNat_of_zero_le n0
    exact ⟨m, by omega, h⟩
  have zN : ∃ n : Nat, n < b ∧ gap a b c d n = 0 := ⟨0, hb, z⟩
  have r := fun n => gap_rng (a := a) hb c0 c1 d0 d1 n
  have up : ∀ n, gap a b c d n = 1 → d / (Nat.gcd a b : Int) < c / (Nat.gcd a b : Int) := fun n h => gap_one hb c0 c1 d0 d1 h
  have dn : ∀ n, gap a b c d n = -1 → c / (Nat.gcd a b : Int) < d / (Nat.gcd a b : Int) := fun n h => gap_one hb d0 d1 c0 c1 (n := n) (by rw [gap_neg]; omega)
  unfold apartV
  split
  · rename_i h
    refine ⟨fun n => ⟨?_, (r n).2⟩, zN, toN (gap_hit hb c0 c1 d0 d1 h)⟩
    have := r n
    have := dn n
    show (0 : Int) ≤ _
    omega
  · split
    · rename_i h
      obtain ⟨n, n0, n1, hn⟩ := gap_hit hb d0 d1 c0 c1 h
      refine ⟨fun n => ⟨(r n).1, ?_⟩, toN ⟨n, n0, n1, by rw [gap_neg, hn]⟩, zN⟩
      have := r n
      have := up n
      show _ ≤ (0 : Int)
      omega
    · refine ⟨fun n => ?_, zN, zN⟩
      have := r n
      have := up n
      have := dn n
      show (0 : Int) ≤ _ ∧ _ ≤ (0 : Int)
      omega
end ShW
namespace ShW
/-! ### words as lists -/
def pre (w : List Int) (k : Nat) : Int := ((w ++ w).take k).sum
theorem pre_le {w : List Int} {k : Nat} (h : k ≤ w.length) : pre w k = (w.take k).sum := by
  unfold pre
  rw [List.take_append_of_le_length h]
theorem pre_per {w : List Int} (h : 0 < w.length) : Per (pre w) w.length w.sum := by
  refine ⟨h, by simp [pre], fun k hk => ?_⟩
  rw [pre_le hk]
  unfold pre
  rw [Nat.add_comm, List.take_length_add_append, List.sum_append]
  omega
theorem pre_succ {w : List Int} {k : Nat} {x : Int} (h : (w ++ w)[k]? = some x) : pre w (k + 1) = pre w k + x := by
  unfold pre
  rw [List.take_succ, h, List.sum_append]
  simp
/-- the word of the formula -/
def ew (a : Int) (b : Nat) (c : Int) : List Int := (List.range b).map fun (k : Nat) => (a * ((k : Int) + 1) + c) / (b : Int) - (a * (k : Int) + c) / (b : Int)
theorem ew_len (a : Int) (b : Nat) (c : Int) : (ew a b c).length = b := by simp [ew]
theorem ew_pre {a : Int} {b : Nat} {c : Int} (c0 : 0 ≤ c) (c1 : c < b) : ∀ k, k ≤ b → ((ew a b c).take k).sum = (a * k + c) / b
  | 0, _ => by simp [Int.ediv_eq_zero_of_lt c0 c1]
  | k + 1, h => by
    have hg : (ew a b c)[k]? = some ((a * ((k : Int) + 1) + c) / (b : Int) - (a * (k : Int) + c) / (b : Int)) := by
      unfold ew
      rw [List.getElem?_map, List.getElem?_range (by omega)]
      rfl
    rw [List.take_succ, hg, List.sum_append, ew_pre c0 c1 k (by omega)]
    simp
    omega
theorem ew_bits {a : Int} {b : Nat} {c : Int} (a0 : 0 ≤ a) (a1 : a ≤ b) : ∀ x ∈ ew a b c, x = 0 ∨ x = 1 := by
  intro x hx
  obtain ⟨k, hk, rfl⟩ := List.mem_map.mp hx
  have hb : 0 < b := by have := List.mem_range.mp hk; omega
  have e : a * ((k : Int) + 1) + c = (a * k + c) + a := by rw [Int.mul_add]; omega
  rw [e]
  rcases Int.lt_or_le a b with z | z
  · have := floor_win (b := b) (x := a * k + c) (y := a) hb
    rw [Int.ediv_eq_zero_of_lt a0 z] at this
    omega
  · have : a = b := by omega
    subst this
    right
    rw [show (b : Int) * k + c + b = (b * k + c) + b * 1 by omega, Int.add_mul_ediv_left _ _ (by omega)]
    omega
/-- a word is told by its counts -/
theorem word_ext {v w : List Int} (hl : v.length = w.length) (h : ∀ k, k ≤ v.length → (v.take k).sum = (w.take k).sum) : v = w := by
  apply List.ext_getElem hl
  intro k h1 h2
  have e1 := h k (by omega)
  have e2 := h (k + 1) (by omega)
  rw [List.take_succ, List.take_succ, List.sum_append, List.sum_append, List.getElem?_eq_getElem h1, List.getElem?_eq_getElem h2] at e2
  simp at e2
  omega
theorem ew_eq_iff {w : List Int} {a c : Int} (c0 : 0 ≤ c) (c1 : c < w.length) : ew a w.length c = w ↔ ∀ k, k ≤ w.length → pre w k = (a * k + c) / w.length := by
  constructor
  · intro h k hk
    rw [pre_le hk]
    have := ew_pre (a := a) c0 c1 k hk
    rwa [h] at this
  · intro h
    refine word_ext (ew_len _ _ _) fun k hk => ?_
    rw [ew_len] at hk
    rw [ew_pre c0 c1 k hk, ← pre_le hk, h k hk]
def offw (w : List Int) (k : Nat) : Int := off (pre w) w.length w.sum k
/-- highest and lowest offset -/
structure Hi (w : List Int) (lo hi : Int) : Prop where
  le : ∀ k, k ≤ w.length → offw w k ≤ hi
  at_ : ∃ k, k < w.length ∧ offw w k = hi
  ge : ∀ k, k ≤ w.length → lo ≤ offw w k
  al : ∃ k, k < w.length ∧ offw w k = lo
theorem offw_0 (w : List Int) : offw w 0 = 0 := by simp [offw, off, pre]
theorem Hi.signs {w : List Int} {lo hi : Int} (h : Hi w lo hi) : lo ≤ 0 ∧ 0 ≤ hi := by
  have h1 := h.le 0 (by omega)
  have h2 := h.ge 0 (by omega)
  rw [offw_0] at h1 h2
  exact ⟨h2, h1⟩
/-- near offsets: the word is the formula's with the highest offset -/
theorem Hi.even {w : List Int} {lo hi : Int} (h : Hi w lo hi) (hn : hi - lo < w.length) : ew w.sum w.length hi = w := by
  have hs := h.signs
  rw [ew_eq_iff hs.2 (by omega)]
  intro k hk
  have h1 := h.le k hk
  have h2 := h.ge k hk
  unfold offw off at h1 h2
  exact (floor_of h1 (by omega)).symm
/-- and no smaller number does it -/
theorem Hi.least {w : List Int} {lo hi : Int} (h : Hi w lo hi) {c : Int} (c0 : 0 ≤ c) (c1 : c < w.length) (he : ew w.sum w.length c = w) : hi ≤ c := by
  rw [ew_eq_iff c0 c1] at he
  obtain ⟨k, hk, e⟩ := h.at_
  have := he k (by omega)
  have f := floor_le (b := w.length) (a := w.sum) (k := k) (g := c) (by omega)
  rw [← this] at f
  rw [← e]
  exact f
theorem Hi.wins {w : List Int} {lo hi : Int} (h : Hi w lo hi) (hn : hi - lo < w.length) {l i j : Nat} (hl : l ≤ w.length) (hi' : i < w.length) (hj : j < w.length) : win (pre w) l i - win (pre w) l j ≤ 1 := by
  have hs := h.signs
  have hP := (ew_eq_iff hs.2 (by omega)).mp (h.even hn)
  have hp := pre_per (w := w) (by omega)
  refine even_wins (b := w.length) (a := w.sum) (g := hi) (by omega) (m := w.length + w.length) (fun k hk => ?_) (by omega) (by omega)
  rcases Nat.lt_or_ge w.length k with z | z
  · obtain ⟨j, rfl⟩ : ∃ j, k = j + w.length := ⟨k - w.length, by omega⟩
    rw [hp.per j (by omega), hP j (by omega), Int.natCast_add, Int.mul_add, show w.sum * (j : Int) + w.sum * (w.length : Int) + hi = (w.sum * j + hi) + (w.length : Int) * w.sum by rw [Int.mul_comm (w.length : Int)]; omega, Int.add_mul_ediv_left _ _ (by omega)]
  · exact hP k z
theorem Hi.conv {w : List Int} {lo hi : Int} (h : Hi w lo hi) (hw : ∀ l, 1 ≤ l → l < w.length → ∀ i j, i < w.length → j < w.length → win (pre w) l i - win (pre w) l j ≤ 1) : hi - lo < w.length := by
  obtain ⟨i, hi', e1⟩ := h.at_
  obtain ⟨j, hj, e2⟩ := h.al
  rw [← e1, ← e2]
  exact (pre_per (w := w) (by omega)).conv hw hi' hj
end ShW
namespace ShW
open PySem L2 DL PyProof.Rows Md Sh
noncomputable abbrev spN (l n : Nat) (m : En → Out) : Sf := specR (fun cs => cs.length = l) n m
theorem spN_sem {l n : Nat} {m : En → Out} : ∀ cs c outs, spN l n m cs = .ok (c, outs) → cs.length = l ∧ runD n m cs = .ok (c, outs) := specR_sem fun _ h => h
theorem spN_r {l n : Nat} {m : En → Out} {cs : List Ce} {r : Rs (Ce × List Ce)} (hl : cs.length = l) (h : runD n m cs = r) : spN l n m cs = r := (specR_ok hl).trans h
def wD (w : List Int) : D := .tuple (w.map .int)
def Sm (i : Int) : Prop := -(2 ^ 64) < i ∧ i < 2 ^ 64
noncomputable def S_count : Sf := spN 4 4 m_count
theorem sem_count : ∀ cs c outs, S_count cs = .ok (c, outs) → cs.length = 4 ∧ runD 4 m_count cs = .ok (c, outs) := spN_sem
theorem divS {b : Int} (h : 0 < b) (h2 : b < 2 ^ 64) : DivOk b := divOk_of (n := 64) h h2 (by decide)
theorem count_r {a b c n : Int} (ha : Sm a) (hb : 0 < b) (hb2 : b < 2 ^ 64) : S_count [.f (.int a), .f (.int b), .f (.int c), .f (.int n)] = .ok (.f (.int ((a * n + c) / b)), []) := spN_r rfl (by
  have m : MulOk a n := mulOk_l ha.1 ha.2
  simp [runD_r, startE, m_count, mulD_i m, fdivD_i (divS hb hb2)])
noncomputable def S_place_of_one : Sf := spN 4 4 m_place_of_one
theorem sem_place_of_one : ∀ cs c outs, S_place_of_one cs = .ok (c, outs) → cs.length = 4 ∧ runD 4 m_place_of_one cs = .ok (c, outs) := spN_sem
theorem place_r {a b c j : Int} (ha : 0 < a) (ha2 : a < 2 ^ 64) (hb : Sm b) : S_place_of_one [.f (.int a), .f (.int b), .f (.int c), .f (.int j)] = .ok (.f (.int ((b * (j + 1) - c - 1) / a)), []) := spN_r rfl (by
  have m : MulOk b (j + 1) := mulOk_l hb.1 hb.2
  simp [runD_r, startE, m_place_of_one, mulD_i m, fdivD_i (divS ha ha2)])
theorem ew_D (a : Int) (b : Nat) (c : Int) : (ew a b c).map D.int = (List.range b).map fun (k : Nat) => D.int ((a * ((k : Int) + 1) + c) / (b : Int) - (a * (k : Int) + c) / (b : Int)) := by
  unfold ew
  rw [List.map_map]
  rfl
theorem hz_of {n : Nat} (h : n < 10000) : n < 16000000 := by omega
noncomputable def S_even_word : Sf := spN 3 7 (m_even_word S_count)
theorem sem_even_word : ∀ cs c outs, S_even_word cs = .ok (c, outs) → cs.length = 3 ∧ runD 7 (m_even_word S_count) cs = .ok (c, outs) := spN_sem
/-- the counts ahead -/
def ah (a : Int) (b : Nat) (c : Int) : List D := (List.range (b + 1)).map fun (k : Nat) => D.int ((a * (k : Int) + c) / (b : Int))
theorem ah_get {a c : Int} {b k : Nat} (h : k < b + 1) : (ah a b c)[k]? = some (D.int ((a * (k : Int) + c) / (b : Int))) := by
  unfold ah
  rw [List.getElem?_map, List.getElem?_range h]
  rfl
theorem ah_len (a c : Int) (b : Nat) : (ah a b c).length = b + 1 := by simp [ah]
theorem ah_cut (a c : Int) (b : Nat) : DL.cutD (ah a b c) (some 1) none = (ah a b c).drop 1 := by
  unfold DL.cutD HT.sIx
  simp only [ah_len]
  rw [show (1 : Int).toNat = 1 from rfl]
  have : min 1 (b + 1) = 1 := by omega
  simp
  rw [List.take_of_length_le (by simp [ah_len])]
theorem ah_zip (a c : Int) (b : Nat) : ziD (ah a b c) ((ah a b c).drop 1) = (List.range b).map fun (k : Nat) => D.tuple [.int ((a * (k : Int) + c) / (b : Int)), .int ((a * ((k : Int) + 1) + c) / (b : Int))] := by
  apply List.ext_getElem?
  intro k
  rw [ziD_get, List.getElem?_drop, List.getElem?_map]
  rcases Nat.lt_or_ge k b with h | h
  · rw [ah_get (by omega), ah_get (show 1 + k < b + 1 by omega), List.getElem?_range h]
    simp [Int.add_comm]
  · have e1 : (List.range b)[k]? = none := by rw [List.getElem?_eq_none (by simp; omega)]
    have e2 : (ah a b c)[1 + k]? = none := by rw [List.getElem?_eq_none (by rw [ah_len]; omega)]
    rw [e1, e2]
    cases (ah a b c)[k]? <;> rfl
theorem ew_c1 {a c : Int} {b : Nat} (ha : Sm a) (hb : 0 < b) (hb2 : b < 1000) : mComp (mRng1 (aCons (mZ (m2 addD (mH (mN (mVar 1))) (mH (mN (mC (.int 1)))))) aNil)) (tgN 4) [4] mYes (m_even_word_e1 S_count) [some (.f (.int a)), some (.f (.int (b : Int))), some (.f (.int c)), none, none, none, none] = .ok (.l false (ah a b c), [some (.f (.int a)), some (.f (.int (b : Int))), some (.f (.int c)), none, none, none, none]) := by
  refine comp_rg (n := b + 1) _ (by simp) (tgOk_n 4) (by simp) (by simp) (hz_of (by omega)) fun k hk => ?_
  have h := count_r (a := a) (b := b) (c := c) (n := k) ha (by omega) (by omega)
  exact ⟨[some (.f (.int a)), some (.f (.int (b : Int))), some (.f (.int c)), none, some (.f (.int (k : Int))), none, none], by simp [wipeE], by simp [m_even_word_e1, h]⟩
theorem ew_c2 {a c : Int} {b : Nat} (hb2 : b < 1000) : mComp (mZip (mVar 3) (mZ (mSlice (mH (mN (mVar 3))) (mO1 (mC (.int 1))) mO0))) (tgT [(tgN 5), (tgN 6)]) [5, 6] mYes m_even_word_e2 [some (.f (.int a)), some (.f (.int (b : Int))), some (.f (.int c)), some (.f (.list (ah a b c))), none, none, none] = .ok (.l false ((ew a b c).map .int), [some (.f (.int a)), some (.f (.int (b : Int))), some (.f (.int c)), some (.f (.list (ah a b c))), none, none, none]) := by
  rw [ew_D]
  refine mComp_of (List.range b) (fun (k : Nat) => D.tuple [.int ((a * (k : Int) + c) / (b : Int)), .int ((a * ((k : Int) + 1) + c) / (b : Int))]) _ ?_ (tgOk_t (.cons (tgOk_n 5) (.cons (tgOk_n 6) .nil))) (by simp) (by simp) (hz_of (by rw [List.length_range]; omega)) fun k hk => ?_
  · rw [← ah_zip]
    have h1 : slD (.list (ah a b c)) (some 1) none = .ok (.l false ((ah a b c).drop 1)) := by
      rw [← ah_cut]
      rfl
    simp [h1]
  · exact ⟨[some (.f (.int a)), some (.f (.int (b : Int))), some (.f (.int c)), some (.f (.list (ah a b c))), none, some (.f (.int ((a * (k : Int) + c) / (b : Int)))), some (.f (.int ((a * ((k : Int) + 1) + c) / (b : Int))))], by simp [wipeE], by simp [m_even_word_e2]⟩
theorem even_word_1 {z1 : M Ce} {a b c : D} {as : List D} (c1 : z1 [some (.f a), some (.f b), some (.f c), none, none, none, none] = .ok (.l false as, [some (.f a), some (.f b), some (.f c), none, none, none, none])) : sAsgF 3 (mZ z1) [some (.f a), some (.f b), some (.f c), none, none, none, none] = .nx [some (.f a), some (.f b), some (.f c), some (.f (.list as)), none, none, none] := by
  simp [c1]
theorem even_word_2 {z1 : M Ce} {e : En} {as : List D} (c1 : z1 e = .ok (.l false as, e)) : sRet (mL tupleD (aCons (mH z1) aNil)) e = .rt (.f (.tuple as)) e := by
  simp [c1]
theorem even_word_s {a c : Int} {b : Nat} (ha : Sm a) (hb : 0 < b) (hb2 : b < 1000) : m_even_word S_count [some (.f (.int a)), some (.f (.int (b : Int))), some (.f (.int c)), none, none, none, none] = .rt (.f (wD (ew a b c))) [some (.f (.int a)), some (.f (.int (b : Int))), some (.f (.int c)), some (.f (.list (ah a b c))), none, none, none] := by
  unfold m_even_word
  rw [seq_nx (even_word_1 (ew_c1 (c := c) ha hb hb2))]
  exact even_word_2 (ew_c2 (a := a) (c := c) hb2)
theorem even_word_r {a c : Int} {b : Nat} (ha : Sm a) (hb : 0 < b) (hb2 : b < 1000) : S_even_word [.f (.int a), .f (.int (b : Int)), .f (.int c)] = .ok (.f (wD (ew a b c)), []) := spN_r rfl (by
  rw [runD_r, show startE 7 [.f (.int a), .f (.int (b : Int)), .f (.int c)] = [some (.f (.int a)), some (.f (.int (b : Int))), some (.f (.int c)), none, none, none, none] from rfl, even_word_s ha hb hb2]
  rfl)
/-! ### windows that differ by more than one -/
def winL (w : List Int) (l : Nat) : List Int := (List.range w.length).map (win (pre w) l)
theorem winL_ne {w : List Int} (h : 0 < w.length) (l : Nat) : winL w l ≠ [] := by
  intro e
  have := congrArg List.length e
  simp [winL] at this
  rw [this] at h
  exact absurd h (by decide)
theorem winL_D (w : List Int) (l : Nat) : (winL w l).map D.int = (List.range w.length).map fun k => D.int (win (pre w) l k) := by
  unfold winL
  rw [List.map_map]
  rfl
/-- where it stands first -/
def fi (is : List Int) (i : Int) : Nat := is.findIdx (· == i)
theorem fi_some {is : List Int} {i : Int} (h : i ∈ is) : is.findIdx? (· == i) = some (fi is i) := by
  rw [List.findIdx?_eq_some_iff_findIdx_eq]
  exact ⟨List.findIdx_lt_length_of_exists ⟨i, h, beq_self_eq_true i⟩, rfl⟩
theorem fi_get {is : List Int} {i : Int} (h : i ∈ is) : is[fi is i]? = some i := by
  have hl : fi is i < is.length := List.findIdx_lt_length_of_exists ⟨i, h, beq_self_eq_true i⟩
  rw [List.getElem?_eq_getElem hl]
  have := List.findIdx_getElem (w := hl) (p := (· == i)) (xs := is)
  simp only [beq_iff_eq] at this
  rw [show is[fi is i] = i from this]
def hiW (w : List Int) (l : Nat) : Int := maxL (winL w l)
def loW (w : List Int) (l : Nat) : Int := minL (winL w l)
def bad (w : List Int) (l : Nat) : Bool := decide (hiW w l - loW w l > 1)
def iW (w : List Int) (l : Nat) : Nat := fi (winL w l) (loW w l)
def jW (w : List Int) (l : Nat) : Nat := fi (winL w l) (hiW w l)
structure Bits (w : List Int) : Prop where
  b0 : 0 < w.length
  b1 : w.length ≤ 400
  z1 : ∀ x ∈ w, x = 0 ∨ x = 1
section
variable {w : List Int} {l : Nat}
theorem hiW_mem (h : Bits w) : hiW w l ∈ winL w l := (maxL_mem (winL_ne h.b0 l)).1
theorem loW_mem (h : Bits w) : loW w l ∈ winL w l := (minL_mem (winL_ne h.b0 l)).1
theorem iW_ok (h : Bits w) : iW w l < w.length ∧ win (pre w) l (iW w l) = loW w l := by
  have g := fi_get (loW_mem (l := l) h)
  obtain ⟨hl, _⟩ := List.getElem?_eq_some_iff.mp g
  have hl2 : iW w l < w.length := by
    have := hl
    rw [show (winL w l).length = w.length by simp [winL]] at this
    exact this
  refine ⟨hl2, ?_⟩
  have : (winL w l)[iW w l]? = some (win (pre w) l (iW w l)) := by
    unfold winL
    rw [List.getElem?_map, List.getElem?_range hl2]
    rfl
  exact Option.some.inj (this.symm.trans g)
theorem jW_ok (h : Bits w) : jW w l < w.length ∧ win (pre w) l (jW w l) = hiW w l := by
  have g := fi_get (hiW_mem (l := l) h)
  obtain ⟨hl, _⟩ := List.getElem?_eq_some_iff.mp g
  have hl2 : jW w l < w.length := by
    have := hl
    rw [show (winL w l).length = w.length by simp [winL]] at this
    exact this
  refine ⟨hl2, ?_⟩
  have : (winL w l)[jW w l]? = some (win (pre w) l (jW w l)) := by
    unfold winL
    rw [List.getElem?_map, List.getElem?_range hl2]
    rfl
  exact Option.some.inj (this.symm.trans g)
theorem bad_iff (h : Bits w) : bad w l = false ↔ ∀ i j, i < w.length → j < w.length → win (pre w) l i - win (pre w) l j ≤ 1 := by
  have hm := (maxL_mem (winL_ne h.b0 l)).2
  have lm := (minL_mem (winL_ne h.b0 l)).2
  have mem : ∀ i, i < w.length → win (pre w) l i ∈ winL w l := fun i hi => List.mem_map.mpr ⟨i, List.mem_range.mpr hi, rfl⟩
  constructor
  · intro hb i j hi hj
    have h1 := hm _ (mem i hi)
    have h2 := lm _ (mem j hj)
    have h3 : ¬ hiW w l - loW w l > 1 := of_decide_eq_false hb
    unfold hiW loW at h3
    omega
  · intro ha
    have h1 := ha _ _ (jW_ok (l := l) h).1 (iW_ok (l := l) h).1
    rw [(jW_ok h).2, (iW_ok h).2] at h1
    exact decide_eq_false (by omega)
/-- the values that both tell -/
theorem max_r (h : Bits w) : maxD [.list ((winL w l).map .int)] = .ok (.f (.int (hiW w l))) := maxD_l (winL_ne h.b0 l)
theorem min_r (h : Bits w) : minD [.list ((winL w l).map .int)] = .ok (.f (.int (loW w l))) := minD_l (winL_ne h.b0 l)
theorem ixlo_r (h : Bits w) : indexD (.list ((winL w l).map .int)) (.int (loW w l)) = .ok (.f (.int (iW w l : Int))) := indexD_l (fi_some (loW_mem h))
theorem ixhi_r (h : Bits w) : indexD (.list ((winL w l).map .int)) (.int (hiW w l)) = .ok (.f (.int (jW w l : Int))) := indexD_l (fi_some (hiW_mem h))
end
/-- the first length of windows that differ -/
structure First (w : List Int) (l : Nat) : Prop where
  l1 : 1 ≤ l
  l2 : l < w.length
  bd : bad w l = true
  fst : ∀ j, 1 ≤ j → j < l → bad w j = false
theorem First.uniq {w : List Int} {l m : Nat} (h : First w l) (g : First w m) : l = m := by
  rcases Nat.lt_trichotomy l m with z | z | z
  · have := g.fst l h.l1 z
    rw [h.bd] at this
    cases this
  · exact z
  · have := h.fst m g.l1 z
    rw [g.bd] at this
    cases this
def NoBad (w : List Int) : Prop := ∀ j, 1 ≤ j → j < w.length → bad w j = false
theorem First.not {w : List Int} {l : Nat} (h : First w l) : ¬ NoBad w := fun g => by
  have := g l h.l1 h.l2
  rw [h.bd] at this
  cases this
/-! ### uneven -/
noncomputable def S_uneven : Sf := spN 1 5 m_uneven
theorem sem_uneven : ∀ cs c outs, S_uneven cs = .ok (c, outs) → cs.length = 1 ∧ runD 5 m_uneven cs = .ok (c, outs) := spN_sem
def presD (xs : List Int) : List D := (List.range (xs.length + 1)).map fun k => D.int (xs.take k).sum
theorem presD_len (xs : List Int) : (presD xs).length = xs.length + 1 := by simp [presD]
theorem presD_end (xs : List Int) : ∃ p, presD xs = p ++ [.int xs.sum] := by
  refine ⟨(List.range xs.length).map fun k => D.int (xs.take k).sum, ?_⟩
  unfold presD
  rw [List.range_succ, List.map_append]
  simp
theorem presD_app (xs : List Int) (x : Int) : presD (xs ++ [x]) = presD xs ++ [.int (xs.sum + x)] := by
  unfold presD
  rw [List.length_append, List.length_singleton, List.range_succ (n := xs.length + 1), List.map_append]
  congr 1
  · apply List.map_congr_left
    intro k hk
    have := List.mem_range.mp hk
    rw [List.take_append_of_le_length (by omega)]
  · simp [List.take_of_length_le, List.sum_append]
theorem presD_get {xs : List Int} {k : Nat} (h : k ≤ xs.length) : (presD xs)[k]? = some (.int (xs.take k).sum) := by
  unfold presD
  rw [List.getElem?_map, List.getElem?_range (by omega)]
  rfl
def eV (w : List Int) (as : List D) (c2 c3 c4 : Option D) : En := [some (.f (wD w)), some (.l false as), c2.map .f, c3.map .f, c4.map .f]
section
variable {w : List Int} {l : Nat} {c2 c3 c4 : Option D}
theorem un_app {p : List D} {s x : Int} (hz : p.length < 1000) : m_uneven_b1 (eV w (p ++ [.int s]) (some (.int x)) c3 c4) = .nx (eV w (p ++ [.int s] ++ [.int (s + x)]) (some (.int x)) c3 c4) := by
  have h1 := ixD_end p (.int s)
  have h2 : (p ++ [D.int s]).length < 16000000 := by
    rw [List.length_append, List.length_singleton]
    exact hz_of (by omega)
  generalize p ++ [D.int s] = q at *
  simp [m_uneven_b1, eV, h1, h2]
theorem un_loop1 (h : Bits w) : ∃ c2, loopL (tgN 2) m_uneven_b1 ((w ++ w).map .int) (eV w [.int 0] none none none) = .nx (eV w (presD (w ++ w)) c2 none none) := by
  have hb := h.b1
  obtain ⟨e', g1, ⟨c2, g2⟩, _⟩ := loopL_fold (t := tgN 2) (b := m_uneven_b1) (D.int) (fun (xs : List Int) e => ∃ c2, e = eV w (presD xs) c2 none none) (fun xs x => xs ++ [x]) (fun xs r => xs.length + r.length ≤ 800) (fun x r xs e hp ⟨c2, he⟩ => by
    obtain ⟨p, q⟩ := presD_end xs
    have hl := presD_len xs
    rw [q, List.length_append, List.length_singleton] at hl
    rw [List.length_cons] at hp
    refine ⟨eV w (presD xs) (some (.int x)) none none, _, by rw [he]; exact tgN_f (a := c2) rfl, ?_, ⟨some (.int x), rfl⟩, by rw [List.length_append, List.length_singleton]; omega⟩
    rw [presD_app, q]
    exact un_app (by omega)) (w ++ w) [] (eV w [.int 0] none none none) (by simp; omega) ⟨none, rfl⟩
  have e1 : (w ++ w).foldl (fun xs x => xs ++ [x]) [] = w ++ w := by
    have : ∀ (ys xs : List Int), ys.foldl (fun xs x => xs ++ [x]) xs = xs ++ ys := by
      intro ys
      induction ys with
      | nil => simp
      | cons y ys ih => intro xs; rw [List.foldl_cons, ih]; simp
    rw [this]
    rfl
  rw [e1] at g2
  exact ⟨c2, by rw [← g2]; exact g1⟩
theorem un_comp (h : Bits w) (hl : l ≤ w.length) : mComp (mRng1 (aCons (mZ (mL lenD (aCons (mH (mN (mVar 0))) aNil))) aNil)) (tgN 2) [2] mYes m_uneven_e1 (eV w (presD (w ++ w)) c2 (some (.int (l : Int))) c4) = .ok (.l false ((winL w l).map .int), eV w (presD (w ++ w)) c2 (some (.int (l : Int))) c4) := by
  rw [winL_D]
  have hn : lenD [wD w] = .ok (.f (.int (w.length : Int))) := by
    show Rs.ok (Ce.f (.int ((w.map D.int).length : Int))) = _
    rw [List.length_map]
  refine comp_rg (n := w.length) _ (by simp [eV, hn]) (tgOk_n 2) (by simp) (by cases c2 <;> simp [eV]) (hz_of (by have := h.b1; omega)) fun k hk => ?_
  refine ⟨[some (.f (wD w)), some (.l false (presD (w ++ w))), some (.f (.int (k : Int))), some (.f (.int (l : Int))), c4.map .f], by simp [wipeE, eV], ?_⟩
  have g1 : ixD (.list (presD (w ++ w))) (.int (k : Int)) = .ok (.f (.int (pre w k))) := ixD_lN (by omega) (by rw [Int.toNat_natCast]; exact presD_get (by simp; omega))
  have g2 : ixD (.list (presD (w ++ w))) (.int ((k : Int) + (l : Int))) = .ok (.f (.int (pre w (k + l)))) := ixD_lN (by omega) (by rw [show ((k : Int) + (l : Int)).toNat = k + l by omega]; exact presD_get (by simp; omega))
  generalize presD (w ++ w) = q at *
  simp [m_uneven_e1, g1, g2, win]
theorem un_set {as : List D} {z : M Ce} {is : List Int} (hz : z (eV w as c2 (some (.int (l : Int))) c4) = .ok (.l false (is.map .int), eV w as c2 (some (.int (l : Int))) c4)) : sAsgF 4 (mZ z) (eV w as c2 (some (.int (l : Int))) c4) = .nx (eV w as c2 (some (.int (l : Int))) (some (.list (is.map .int)))) := by
  have e1 : (eV w as c2 (some (.int (l : Int))) c4).set 4 (some (.f (.list (is.map .int)))) = eV w as c2 (some (.int (l : Int))) (some (.list (is.map .int))) := rfl
  have hio : ioAt (eV w as c2 (some (.int (l : Int))) c4) 4 = false := ioAt_f (a := c4) rfl
  simp [hz, hio, e1]
theorem un_no {as : List D} (h : Bits w) (hb : ¬ hiW w l - loW w l > 1) {s : En → Out} : sIf (mBool (m2 gtD (mH (m2 subD (mH (mL maxD (aCons (mH (mN (mVar 4))) aNil))) (mH (mL minD (aCons (mH (mN (mVar 4))) aNil))))) (mH (mN (mC (.int 1)))))) s sNext (eV w as c2 (some (.int (l : Int))) (some (.list ((winL w l).map .int)))) = .nx (eV w as c2 (some (.int (l : Int))) (some (.list ((winL w l).map .int)))) := by
  have h1 := max_r (l := l) h
  have h2 := min_r (l := l) h
  generalize winL w l = ws at *
  simp [eV, h1, h2, hb]
theorem un_yes {as : List D} (h : Bits w) (hb : hiW w l - loW w l > 1) : sIf (mBool (m2 gtD (mH (m2 subD (mH (mL maxD (aCons (mH (mN (mVar 4))) aNil))) (mH (mL minD (aCons (mH (mN (mVar 4))) aNil))))) (mH (mN (mC (.int 1)))))) (sRet (mN (mTup (aCons (mC (.str "uneven")) (aCons (mVar 3) (aCons (mZ (mIndex (mVar 4) (mZ (mL minD (aCons (mH (mN (mVar 4))) aNil))))) (aCons (mZ (mIndex (mVar 4) (mZ (mL maxD (aCons (mH (mN (mVar 4))) aNil))))) aNil))))))) sNext (eV w as c2 (some (.int (l : Int))) (some (.list ((winL w l).map .int)))) = .rt (.f (.tuple [.str "uneven", .int (l : Int), .int (iW w l : Int), .int (jW w l : Int)])) (eV w as c2 (some (.int (l : Int))) (some (.list ((winL w l).map .int)))) := by
  have h1 := max_r (l := l) h
  have h2 := min_r (l := l) h
  have h3 := ixlo_r (l := l) h
  have h4 := ixhi_r (l := l) h
  have ht : isT "list" (.list ((winL w l).map .int)) = true := rfl
  generalize winL w l = ws at *
  simp [eV, h1, h2, h3, h4, hb, ht]
theorem un_body (h : Bits w) (hl : l ≤ w.length) : (bad w l = false ∧ ∃ e2, m_uneven_b2 (eV w (presD (w ++ w)) c2 (some (.int (l : Int))) c4) = .nx e2 ∧ ∃ c2 c3 c4, e2 = eV w (presD (w ++ w)) c2 c3 c4) ∨ (bad w l = true ∧ ∃ e2, m_uneven_b2 (eV w (presD (w ++ w)) c2 (some (.int (l : Int))) c4) = .rt (.f (.tuple [.str "uneven", .int (l : Int), .int (iW w l : Int), .int (jW w l : Int)])) e2) := by
  unfold m_uneven_b2
  rw [seq_nx (un_set (un_comp h hl))]
  by_cases hb : hiW w l - loW w l > 1
  · exact .inr ⟨decide_eq_true hb, _, un_yes h hb⟩
  · exact .inl ⟨decide_eq_false hb, _, un_no h hb, _, _, _, rfl⟩
theorem un_loop (h : Bits w) (c2 : Option D) : (NoBad w ∧ ∃ c2' c3 c4, loopL (tgN 3) m_uneven_b2 (rgD 1 (w.length - 1)) (eV w (presD (w ++ w)) c2 none none) = .nx (eV w (presD (w ++ w)) c2' c3 c4)) ∨ ∃ l e', First w l ∧ loopL (tgN 3) m_uneven_b2 (rgD 1 (w.length - 1)) (eV w (presD (w ++ w)) c2 none none) = .rt (.f (.tuple [.str "uneven", .int (l : Int), .int (iW w l : Int), .int (jW w l : Int)])) e' := by
  have hb0 := h.b0
  rcases loop_first (b := m_uneven_b2) (i := 3) (n := w.length) (lo0 := 1) (P := bad w) (fun e => ∃ c2 c3 c4, e = eV w (presD (w ++ w)) c2 c3 c4) (fun l => .f (.tuple [.str "uneven", .int (l : Int), .int (iW w l : Int), .int (jW w l : Int)])) (fun k e h1 h2 ⟨c2, c3, c4, he⟩ => ⟨eV w (presD (w ++ w)) c2 (some (.int (k : Int))) c4, by rw [he]; exact tgN_f (a := c3) rfl, un_body h (by omega)⟩) (w.length - 1) 1 (by omega) (by omega) (eV w (presD (w ++ w)) c2 none none) ⟨c2, none, none, rfl⟩ with ⟨e', g1, ⟨c2', c3, c4, g2⟩, g3⟩ | ⟨k, e', g1, g2, g3, g4, g5⟩
  · exact .inl ⟨fun j j1 j2 => g3 j j1 j2, c2', c3, c4, by rw [← g2]; exact g1⟩
  · exact .inr ⟨k, e', ⟨g2, g3, g4, g5⟩, g1⟩
theorem add_ww (h : Bits w) : addD (wD w) (wD w) = .ok (.f (wD (w ++ w))) := by
  show (if (w.map D.int).length + (w.map D.int).length ≤ sizeLine then _ else _) = _
  rw [if_pos (sizeLine_ge _ (by simp; have := h.b1; omega))]
  unfold wD
  rw [List.map_append]
theorem un_s1 : sAsg 1 (mLst (aCons (mC (.int 0)) aNil)) [some (.f (wD w)), none, none, none, none] = .nx (eV w [.int 0] none none none) := by
  simp [eV]
theorem un_s2 (h : Bits w) : mSeqA (mZ (m2 addD (mH (mN (mVar 0))) (mH (mN (mVar 0))))) (eV w [.int 0] none none none) = .ok ((w ++ w).map .int, eV w [.int 0] none none none) := by
  have ha := add_ww h
  simp only [eV]
  have hi : (wD (w ++ w)).items = .ok ((w ++ w).map .int) := rfl
  generalize w ++ w = ww at *
  simp [ha, hi]
theorem un_s3 (h : Bits w) (as : List D) : mRng2 (aCons (mC (.int 1)) (aCons (mZ (mL lenD (aCons (mH (mN (mVar 0))) aNil))) aNil)) (eV w as c2 none none) = .ok (rgD 1 (w.length - 1), eV w as c2 none none) := by
  have hn : lenD [wD w] = .ok (.f (.int (w.length : Int))) := by
    show Rs.ok (Ce.f (.int ((w.map D.int).length : Int))) = _
    rw [List.length_map]
  exact rng2_n (lo := 1) (n := w.length) (by simp [eV, hn]) (by decide) (by have := h.b1; omega)
theorem uneven_none (h : Bits w) (hn : NoBad w) : S_uneven [.f (wD w)] = .ok (.f .none, []) := spN_r rfl (by
  obtain ⟨c2, g1⟩ := un_loop1 h
  rcases un_loop h c2 with ⟨_, c2', c3, c4, g⟩ | ⟨l, e', hf, _⟩
  · have key : m_uneven [some (.f (wD w)), none, none, none, none] = .rt (.f .none) (eV w (presD (w ++ w)) c2' c3 c4) := by
      unfold m_uneven
      rw [seq_nx un_s1, seq_nx ((for_rD (un_s2 h)).trans g1), seq_nx ((for_rD (un_s3 h _)).trans g)]
      simp
    rw [runD_r, show startE 5 [.f (wD w)] = [some (.f (wD w)), none, none, none, none] from rfl, key]
    rfl
  · exact (hf.not hn).elim)
theorem uneven_some (h : Bits w) (hf : First w l) : S_uneven [.f (wD w)] = .ok (.f (.tuple [.str "uneven", .int (l : Int), .int (iW w l : Int), .int (jW w l : Int)]), []) := spN_r rfl (by
  obtain ⟨c2, g1⟩ := un_loop1 h
  rcases un_loop h c2 with ⟨hn, _⟩ | ⟨m, e', hg, g⟩
  · exact (hf.not hn).elim
  · cases hf.uniq hg
    have key : m_uneven [some (.f (wD w)), none, none, none, none] = .rt (.f (.tuple [.str "uneven", .int (l : Int), .int (iW w l : Int), .int (jW w l : Int)])) e' := by
      unfold m_uneven
      rw [seq_nx un_s1, seq_nx ((for_rD (un_s2 h)).trans g1), seq_rt ((for_rD (un_s3 h _)).trans g)]
    rw [runD_r, show startE 5 [.f (wD w)] = [some (.f (wD w)), none, none, none, none] from rfl, key]
    rfl)
end
/-! ### words that are alike -/
theorem plA_ints (n : Nat) (w : List Int) : D.plA (n + 1) (w.map .int) = true := by
  induction w with
  | nil => rfl
  | cons i w ih => rw [List.map_cons, D.plA, ih]; rfl
theorem eqbA_ints : ∀ u w : List Int, D.eqbA (u.map .int) (w.map .int) = decide (u = w)
  | [], [] => rfl
  | [], _ :: _ => rfl
  | _ :: _, [] => rfl
  | i :: u, j :: w => by
    rw [List.map_cons, List.map_cons, D.eqbA, eqbA_ints u w]
    by_cases h1 : i = j
    · by_cases h2 : u = w
      · simp [h1, h2, D.eqb]
      · simp [h1, h2, D.eqb]
    · simp [h1, D.eqb]
theorem eq_w (u w : List Int) : eqD (wD u) (wD w) = .ok (.f (.bool (decide (u = w)))) := by
  unfold eqD wD
  have h1 : D.pl 60 (.tuple (u.map .int)) = true := plA_ints 59 u
  have h2 : D.pl 60 (.tuple (w.map .int)) = true := plA_ints 59 w
  have h3 : D.eqb (.tuple (u.map .int)) (.tuple (w.map .int)) = decide (u = w) := by rw [D.eqb, eqbA_ints]
  rw [h1, h2, h3]
  simp
theorem len_w (w : List Int) : lenD [wD w] = .ok (.f (.int (w.length : Int))) := by
  show Rs.ok (Ce.f (.int ((w.map D.int).length : Int))) = _
  rw [List.length_map]
theorem sum_w (w : List Int) : sumD [wD w] = .ok (.f (.int w.sum)) := sumD_t w
theorem bits_sum {w : List Int} (h : Bits w) : 0 ≤ w.sum ∧ w.sum ≤ w.length := by
  have : ∀ v : List Int, (∀ x ∈ v, x = 0 ∨ x = 1) → 0 ≤ v.sum ∧ v.sum ≤ v.length := by
    intro v
    induction v with
    | nil => intro _; simp
    | cons x v ih =>
      intro hx
      have := ih fun y hy => hx y (List.mem_cons_of_mem _ hy)
      have := hx x List.mem_cons_self
      rw [List.sum_cons, List.length_cons]
      omega
  exact this w h.z1
theorem bits_sm {w : List Int} (h : Bits w) : Sm w.sum := by
  have := bits_sum h
  have := h.b1
  exact ⟨by omega, by omega⟩
/-! ### evenness -/
noncomputable def S_evenness : Sf := spN 1 7 (m_evenness S_uneven)
theorem sem_evenness : ∀ cs c outs, S_evenness cs = .ok (c, outs) → cs.length = 1 ∧ runD 7 (m_evenness S_uneven) cs = .ok (c, outs) := spN_sem
/-- offsets of the first places -/
def ofp (b a : Int) (xs : List Int) (j : Nat) : Int := b * (xs.take j).sum - a * j
structure Hp' (b a : Int) (xs : List Int) (lo hi : Int) : Prop where
  le : ∀ j, j ≤ xs.length → ofp b a xs j ≤ hi
  ge : ∀ j, j ≤ xs.length → lo ≤ ofp b a xs j
  at_ : ∃ j, j ≤ xs.length ∧ ofp b a xs j = hi
  al : ∃ j, j ≤ xs.length ∧ ofp b a xs j = lo
theorem ofp_app {b a : Int} {xs : List Int} {x : Int} {j : Nat} (h : j ≤ xs.length) : ofp b a (xs ++ [x]) j = ofp b a xs j := by
  unfold ofp
  rw [List.take_append_of_le_length h]
theorem ofp_end {b a : Int} {xs : List Int} {x : Int} : ofp b a (xs ++ [x]) (xs.length + 1) = ofp b a xs xs.length + (b * x - a) := by
  unfold ofp
  rw [List.take_of_length_le (by simp), List.take_of_length_le (Nat.le_refl _), List.sum_append, Int.natCast_add, Int.mul_add, Int.mul_add]
  simp
  omega
theorem Hp'.app {b a : Int} {xs : List Int} {lo hi x : Int} (h : Hp' b a xs lo hi) :
    Hp' b a (xs ++ [x]) (if ofp b a xs xs.length + (b * x - a) < lo then ofp b a xs xs.length + (b * x - a) else lo) (if ofp b a xs xs.length + (b * x - a) > hi then ofp b a xs xs.length + (b * x - a) else hi) := by
  have e := ofp_end (b := b) (a := a) (xs := xs) (x := x)
  have hl : (xs ++ [x]).length = xs.length + 1 := by simp
  generalize ofp b a xs xs.length + (b * x - a) = v at *
  have old := fun j hj => ofp_app (b := b) (a := a) (xs := xs) (x := x) (j := j) hj
  refine ⟨fun j hj => ?_, fun j hj => ?_, ?_, ?_⟩
  · rcases Nat.lt_or_ge xs.length j with z | z
    · rw [show j = xs.length + 1 by omega, e]
      split <;> omega
    · rw [old j z]
      have := h.le j z
      split <;> omega
  · rcases Nat.lt_or_ge xs.length j with z | z
    · rw [show j = xs.length + 1 by omega, e]
      split <;> omega
    · rw [old j z]
      have := h.ge j z
      split <;> omega
  · split
    · exact ⟨xs.length + 1, by omega, e⟩
    · obtain ⟨j, j1, j2⟩ := h.at_
      exact ⟨j, by omega, by rw [old j j1]; exact j2⟩
  · split
    · exact ⟨xs.length + 1, by omega, e⟩
    · obtain ⟨j, j1, j2⟩ := h.al
      exact ⟨j, by omega, by rw [old j j1]; exact j2⟩
theorem Hp'.hi {w : List Int} {lo hi : Int} (hb : 0 < w.length) (h : Hp' w.length w.sum w lo hi) : Hi w lo hi := by
  have e : ∀ k, k ≤ w.length → offw w k = ofp w.length w.sum w k := fun k hk => by
    unfold offw off ofp
    rw [pre_le hk]
  have eb : ofp w.length w.sum w w.length = ofp w.length w.sum w 0 := by
    rw [← e _ (Nat.le_refl _), ← e 0 (by omega)]
    have := (pre_per hb).off_per (k := 0) (by omega)
    rw [Nat.zero_add] at this
    exact this
  refine ⟨fun k hk => by rw [e k hk]; exact h.le k hk, ?_, fun k hk => by rw [e k hk]; exact h.ge k hk, ?_⟩
  · obtain ⟨j, j1, j2⟩ := h.at_
    rcases Nat.lt_or_ge j w.length with z | z
    · exact ⟨j, z, by rw [e j j1]; exact j2⟩
    · have : j = w.length := by omega
      subst this
      exact ⟨0, hb, by rw [e 0 (by omega), ← eb]; exact j2⟩
  · obtain ⟨j, j1, j2⟩ := h.al
    rcases Nat.lt_or_ge j w.length with z | z
    · exact ⟨j, z, by rw [e j j1]; exact j2⟩
    · have : j = w.length := by omega
      subst this
      exact ⟨0, hb, by rw [e 0 (by omega), ← eb]; exact j2⟩
def eE (w : List Int) (o lo hi : Int) (c6 : Option D) : En := [some (.f (wD w)), some (.f (.int (w.length : Int))), some (.f (.int w.sum)), some (.f (.int o)), some (.f (.int lo)), some (.f (.int hi)), c6.map .f]
theorem ev_body {w : List Int} (h : Bits w) (o lo hi x : Int) : m_evenness_b1 (eE w o lo hi (some (.int x))) = .nx (eE w (o + (w.length * x - w.sum)) (if o + (w.length * x - w.sum) < lo then o + (w.length * x - w.sum) else lo) (if o + (w.length * x - w.sum) > hi then o + (w.length * x - w.sum) else hi) (some (.int x))) := by
  have m : MulOk (w.length : Int) x := mulOk_l (by omega) (by have := h.b1; omega)
  simp [m_evenness_b1, eE, mulD_i m]
theorem ev_loop {w : List Int} (h : Bits w) : ∃ lo hi c6, Hi w lo hi ∧ ∃ o, loopL (tgN 6) m_evenness_b1 (w.map .int) (eE w 0 0 0 none) = .nx (eE w o lo hi c6) := by
  obtain ⟨e', g1, ⟨lo, hi, c6, g2, g3⟩, _⟩ := loopL_fold (t := tgN 6) (b := m_evenness_b1) (D.int) (fun (xs : List Int) e => ∃ lo hi c6, e = eE w (ofp w.length w.sum xs xs.length) lo hi c6 ∧ Hp' w.length w.sum xs lo hi) (fun xs x => xs ++ [x]) (fun _ _ => True) (fun x r xs e _ ⟨lo, hi, c6, he, hh⟩ => by
    refine ⟨eE w (ofp w.length w.sum xs xs.length) lo hi (some (.int x)), _, by rw [he]; exact tgN_f (a := c6) rfl, ev_body h _ _ _ _, ⟨_, _, some (.int x), ?_, hh.app⟩, trivial⟩
    rw [List.length_append, List.length_singleton, ofp_end]) w [] (eE w 0 0 0 none) trivial ⟨0, 0, none, by simp [ofp], ⟨fun j hj => by simp at hj; subst hj; simp [ofp], fun j hj => by simp at hj; subst hj; simp [ofp], ⟨0, by simp, by simp [ofp]⟩, ⟨0, by simp, by simp [ofp]⟩⟩⟩
  have e1 : w.foldl (fun xs x => xs ++ [x]) [] = w := by
    have : ∀ (ys xs : List Int), ys.foldl (fun xs x => xs ++ [x]) xs = xs ++ ys := by
      intro ys
      induction ys with
      | nil => simp
      | cons y ys ih => intro xs; rw [List.foldl_cons, ih]; simp
    rw [this]
    rfl
  rw [e1] at g2 g3
  exact ⟨lo, hi, c6, g3.hi h.b0, _, by rw [← g2]; exact g1⟩
theorem ev_start {w : List Int} (k : En → Out) : (sSeq (sAsgF 1 (mZ (mL lenD (aCons (mH (mN (mVar 0))) aNil))))
    (sSeq (sAsgF 2 (mZ (mL sumD (aCons (mH (mN (mVar 0))) aNil))))
    (sSeq (sTgt (tgT [(tgN 3), (tgN 4), (tgN 5)]) (mTup (aCons (mC (.int 0)) (aCons (mC (.int 0)) (aCons (mC (.int 0)) aNil))))) k))) [some (.f (wD w)), none, none, none, none, none, none] = k (eE w 0 0 0 none) := by
  have s1 : sAsgF 1 (mZ (mL lenD (aCons (mH (mN (mVar 0))) aNil))) [some (.f (wD w)), none, none, none, none, none, none] = .nx [some (.f (wD w)), some (.f (.int (w.length : Int))), none, none, none, none, none] := by
    simp [len_w]
  have s2 : sAsgF 2 (mZ (mL sumD (aCons (mH (mN (mVar 0))) aNil))) [some (.f (wD w)), some (.f (.int (w.length : Int))), none, none, none, none, none] = .nx [some (.f (wD w)), some (.f (.int (w.length : Int))), some (.f (.int w.sum)), none, none, none, none] := by
    simp [sum_w]
  have s3 : sTgt (tgT [(tgN 3), (tgN 4), (tgN 5)]) (mTup (aCons (mC (.int 0)) (aCons (mC (.int 0)) (aCons (mC (.int 0)) aNil)))) [some (.f (wD w)), some (.f (.int (w.length : Int))), some (.f (.int w.sum)), none, none, none, none] = .nx (eE w 0 0 0 none) := by
    simp [eE]
  rw [seq_nx s1, seq_nx s2, seq_nx s3]
theorem ev_items {w : List Int} : mSeqA (mVar 0) (eE w 0 0 0 none) = .ok (w.map .int, eE w 0 0 0 none) := by
  have : (wD w).items = .ok (w.map .int) := rfl
  simp [eE, this]
/-- what evenness tells of an even word -/
theorem evenness_even {w : List Int} (h : Bits w) (hn : NoBad w) : ∃ lo hi, Hi w lo hi ∧ hi - lo < w.length ∧ S_evenness [.f (wD w)] = .ok (.f (.tuple [.str "even", .int hi]), []) := by
  obtain ⟨lo, hi, c6, hh, o, g⟩ := ev_loop h
  have hlt : hi - lo < w.length := hh.conv fun l l1 l2 i j hi hj => (bad_iff h).mp (hn l l1 l2) i j hi hj
  refine ⟨lo, hi, hh, hlt, spN_r rfl ?_⟩
  have s1 : (sSeq (sIf (mBool (m2 ltD (mH (m2 subD (mH (mN (mVar 5))) (mH (mN (mVar 4))))) (mH (mN (mVar 1))))) (sRet (mN (mTup (aCons (mC (.str "even")) (aCons (mVar 5) aNil))))) sNext)
    (sRet (mCall S_uneven (aCons (aD (mVar 0)) aNil)))) (eE w o lo hi c6) = .rt (.f (.tuple [.str "even", .int hi])) (eE w o lo hi c6) := by
    simp [eE, hlt]
  have key : m_evenness S_uneven [some (.f (wD w)), none, none, none, none, none, none] = .rt (.f (.tuple [.str "even", .int hi])) (eE w o lo hi c6) := by
    unfold m_evenness
    rw [ev_start, seq_nx ((for_rD ev_items).trans g), s1]
  rw [runD_r, show startE 7 [.f (wD w)] = [some (.f (wD w)), none, none, none, none, none, none] from rfl, key]
  rfl
theorem evenness_not {w : List Int} {l : Nat} (h : Bits w) (hf : First w l) : S_evenness [.f (wD w)] = .ok (.f (.tuple [.str "uneven", .int (l : Int), .int (iW w l : Int), .int (jW w l : Int)]), []) := by
  obtain ⟨lo, hi, c6, hh, o, g⟩ := ev_loop h
  have hlt : ¬ hi - lo < w.length := fun hlt => by
    have : bad w l = false := (bad_iff h).mpr fun i j hi hj => hh.wins hlt (by have := hf.l2; omega) hi hj
    rw [hf.bd] at this
    cases this
  refine spN_r rfl ?_
  have hu := uneven_some h hf
  have s1 : (sSeq (sIf (mBool (m2 ltD (mH (m2 subD (mH (mN (mVar 5))) (mH (mN (mVar 4))))) (mH (mN (mVar 1))))) (sRet (mN (mTup (aCons (mC (.str "even")) (aCons (mVar 5) aNil))))) sNext)
    (sRet (mCall S_uneven (aCons (aD (mVar 0)) aNil)))) (eE w o lo hi c6) = .rt (.f (.tuple [.str "uneven", .int (l : Int), .int (iW w l : Int), .int (jW w l : Int)])) (eE w o lo hi c6) := by
    simp [eE, hlt, hu]
  have key : m_evenness S_uneven [some (.f (wD w)), none, none, none, none, none, none] = .rt (.f (.tuple [.str "uneven", .int (l : Int), .int (iW w l : Int), .int (jW w l : Int)])) (eE w o lo hi c6) := by
    unfold m_evenness
    rw [ev_start, seq_nx ((for_rD ev_items).trans g), s1]
  rw [runD_r, show startE 7 [.f (wD w)] = [some (.f (wD w)), none, none, none, none, none, none] from rfl, key]
  rfl
end ShW

namespace Md
open PySem L2 DL PyProof.Rows
noncomputable def m_advanced_b1 : En → Out :=
  (sIf (mBool (m2 gtD (mH (mN (mVar 5))) (mH (mN (mC (.int 0)))))) (sAsgF 3 (mZ (mL minD (aCons (mH (mN (mVar 3))) (aCons (mH (m2 fdivD (mH (m2 subD (mH (mN (mVar 2))) (mH (mN (mVar 4))))) (mH (mN (mVar 5))))) aNil))))) sNext)
noncomputable def m_advanced : En → Out :=
  (sSeq (sFor (mZip (mVar 0) (mVar 1)) (tgT [(tgN 4), (tgN 5)]) m_advanced_b1)
    (sRet (mN (mTup (aCons (mZ (m2 addD (mH (m2 ixD (mH (mN (mVar 0))) (mH (mN (mC (.int 0)))))) (mH (m2 mulD (mH (mN (mVar 3))) (mH (m2 ixD (mH (mN (mVar 1))) (mH (mN (mC (.int 0)))))))))) (aCons (mZ (m2 addD (mH (m2 ixD (mH (mN (mVar 0))) (mH (mN (mC (.int 1)))))) (mH (m2 mulD (mH (mN (mVar 3))) (mH (m2 ixD (mH (mN (mVar 1))) (mH (mN (mC (.int 1)))))))))) aNil))))))
noncomputable def m_between_t1 : M Bool :=
  (mAnd (mBool (m2 leD (mH (m2 addD (mH (m2 ixD (mH (mN (mVar 4))) (mH (mN (mC (.int 0)))))) (mH (m2 ixD (mH (mN (mVar 5))) (mH (mN (mC (.int 0)))))))) (mH (mN (mVar 1))))) (mBool (m2 leD (mH (m2 addD (mH (m2 ixD (mH (mN (mVar 4))) (mH (mN (mC (.int 1)))))) (mH (m2 ixD (mH (mN (mVar 5))) (mH (mN (mC (.int 1)))))))) (mH (mN (mVar 1))))))
noncomputable def m_between_w1 (S_advanced : Sf) : En → Out :=
  (sSeq (sAsgF 6 (mZ (m2 subD (mH (m2 mulD (mH (mN (mVar 2))) (mH (m2 ixD (mH (mN (mVar 4))) (mH (mN (mC (.int 1)))))))) (mH (m2 mulD (mH (m2 ixD (mH (mN (mVar 4))) (mH (mN (mC (.int 0)))))) (mH (mN (mVar 3))))))))
    (sSeq (sAsgF 7 (mZ (m2 subD (mH (m2 mulD (mH (m2 ixD (mH (mN (mVar 5))) (mH (mN (mC (.int 0)))))) (mH (mN (mVar 3))))) (mH (m2 mulD (mH (mN (mVar 2))) (mH (m2 ixD (mH (mN (mVar 5))) (mH (mN (mC (.int 1)))))))))))
    (sIf (mBool (m2 gtD (mH (mN (mVar 6))) (mH (mN (mVar 7))))) (sAsgF 4 (mZ (mCall S_advanced (aCons (aD (mVar 4)) (aCons (aD (mVar 5)) (aCons (aD (mVar 1)) (aCons (aD (mZ (m2 fdivD (mH (mN (mVar 6))) (mH (mN (mVar 7)))))) aNil))))))) (sAsgF 5 (mZ (mCall S_advanced (aCons (aD (mVar 5)) (aCons (aD (mVar 4)) (aCons (aD (mVar 1)) (aCons (aD (mZ (m2 fdivD (mH (mN (mVar 7))) (mH (mN (mVar 6)))))) aNil))))))))))
noncomputable def m_between (S_advanced : Sf) : En → Out :=
  (sSeq (sTgt (tgT [(tgN 2), (tgN 3)]) (mVar 0))
    (sSeq (sIf (mAnd (mBool (m2 leD (mH (mN (mVar 2))) (mH (mN (mVar 1))))) (mBool (m2 leD (mH (mN (mVar 3))) (mH (mN (mVar 1)))))) (sRet (mN (mTup (aCons (mC (.str "between")) (aCons (mTup (aCons (mVar 2) (aCons (mVar 3) aNil))) (aCons (mTup (aCons (mVar 2) (aCons (mVar 3) aNil))) aNil)))))) sNext)
    (sSeq (sTgt (tgT [(tgN 4), (tgN 5)]) (mTup (aCons (mTup (aCons (mC (.int 0)) (aCons (mC (.int 1)) aNil))) (aCons (mTup (aCons (mC (.int 1)) (aCons (mC (.int 0)) aNil))) aNil))))
    (sSeq (sWhile m_between_t1 (m_between_w1 S_advanced))
    (sSeq (sIf (mBool (m2 eqD (mH (m2 ixD (mH (mN (mVar 5))) (mH (mN (mC (.int 1)))))) (mH (mN (mC (.int 0)))))) (sRet (mN (mTup (aCons (mC (.str "between")) (aCons (mVar 4) (aCons (mC .none) aNil)))))) sNext)
    (sRet (mN (mTup (aCons (mC (.str "between")) (aCons (mVar 4) (aCons (mVar 5) aNil)))))))))))
noncomputable def m_nearest (S_between S_compare S_minus : Sf) : En → Out :=
  (sSeq (sAsgF 2 (mZ (mCall S_between (aCons (aD (mVar 0)) (aCons (aD (mVar 1)) aNil)))))
    (sSeq (sParN 3 4 (mN (mZ (m2 ixD (mH (mN (mVar 2))) (mH (mN (mC (.int 1))))))) (mN (mZ (m2 ixD (mH (mN (mVar 2))) (mH (mN (mC (.int 2))))))))
    (sSeq (sIf (mOr (mBool (m2 isD (mH (mN (mVar 4))) (mH (mN (mC .none))))) (mBool (m2 leD (mH (mCall S_compare (aCons (aD (mZ (mCall S_minus (aCons (aD (mVar 0)) (aCons (aD (mVar 3)) aNil))))) (aCons (aD (mZ (mCall S_minus (aCons (aD (mVar 4)) (aCons (aD (mVar 0)) aNil))))) aNil)))) (mH (mN (mC (.int 0))))))) (sRet (mN (mVar 3))) sNext)
    (sRet (mN (mVar 4))))))
end Md
namespace ShN
open PySem L2 DL PyProof.Rows Md Sh
/-! ### between: the walk down the tree, many steps at once -/
/-- low = l, high = h; the fraction p/q is l*b + h*a -/
structure Br (p q n l0 l1 h0 h1 a b : Nat) : Prop where
  pp : p = l0 * b + h0 * a
  qq : q = l1 * b + h1 * a
  un : h0 * l1 = l0 * h1 + 1
  pa : 0 < a
  pb : 0 < b
  co : Nat.gcd a b = 1
  n0 : l0 ≤ n
  n1 : l1 ≤ n
  m0 : h0 ≤ n
  m1 : h1 ≤ n
  out : ¬ (p ≤ n ∧ q ≤ n)
theorem Br.ahead {p q n l0 l1 h0 h1 a b : Nat} (h : Br p q n l0 l1 h0 h1 a b) : p * l1 = l0 * q + a := by
  obtain ⟨pp, qq, un, _⟩ := h
  rw [pp, qq]
  have u1 : h0 * l1 * a = l0 * h1 * a + a := by rw [un, Nat.add_mul, Nat.one_mul]
  simp only [Nat.add_mul, Nat.mul_add, Nat.mul_assoc, Nat.mul_comm, Nat.mul_left_comm] at *
  omega
theorem Br.behind {p q n l0 l1 h0 h1 a b : Nat} (h : Br p q n l0 l1 h0 h1 a b) : h0 * q = p * h1 + b := by
  obtain ⟨pp, qq, un, _⟩ := h
  rw [pp, qq]
  have u1 : h0 * l1 * b = l0 * h1 * b + b := by rw [un, Nat.add_mul, Nat.one_mul]
  simp only [Nat.add_mul, Nat.mul_add, Nat.mul_assoc, Nat.mul_comm, Nat.mul_left_comm] at *
  omega
theorem gcd_sub_mul {a b k : Nat} (h : k * b ≤ a) : Nat.gcd (a - k * b) b = Nat.gcd a b := by
  obtain ⟨c, rfl⟩ : ∃ c, a = c + k * b := ⟨a - k * b, by omega⟩
  rw [Nat.add_sub_cancel, Nat.gcd_add_mul_right_left]
/-- k steps to the right -/
theorem Br.low {p q n l0 l1 h0 h1 a b k : Nat} (h : Br p q n l0 l1 h0 h1 a b) (hk : k * b ≤ a) (k0 : l0 + k * h0 ≤ n) (k1 : l1 + k * h1 ≤ n) : Br p q n (l0 + k * h0) (l1 + k * h1) h0 h1 (a - k * b) b := by
  obtain ⟨pp, qq, un, pa, pb, co, n0, n1, m0, m1, out⟩ := h
  have hco := gcd_sub_mul (k := k) hk
  obtain ⟨c, rfl⟩ : ∃ c, a = c + k * b := ⟨a - k * b, by omega⟩
  rw [Nat.add_sub_cancel] at *
  have e1 : p = (l0 + k * h0) * b + h0 * c := by
    simp only [Nat.add_mul, Nat.mul_add, Nat.mul_assoc, Nat.mul_comm, Nat.mul_left_comm] at *; omega
  have e2 : q = (l1 + k * h1) * b + h1 * c := by
    simp only [Nat.add_mul, Nat.mul_add, Nat.mul_assoc, Nat.mul_comm, Nat.mul_left_comm] at *; omega
  refine ⟨e1, e2, ?_, ?_, pb, by rw [hco]; exact co, k0, k1, m0, m1, out⟩
  · simp only [Nat.add_mul, Nat.mul_add, Nat.mul_assoc, Nat.mul_comm, Nat.mul_left_comm] at *; omega
  · rcases Nat.eq_zero_or_pos c with z | z
    · exfalso
      subst z
      rw [Nat.gcd_zero_left, co] at hco
      subst hco
      exact out ⟨by omega, by omega⟩
    · exact z
/-- k steps to the left -/
theorem Br.high {p q n l0 l1 h0 h1 a b k : Nat} (h : Br p q n l0 l1 h0 h1 a b) (hk : k * a ≤ b) (k0 : h0 + k * l0 ≤ n) (k1 : h1 + k * l1 ≤ n) : Br p q n l0 l1 (h0 + k * l0) (h1 + k * l1) a (b - k * a) := by
  obtain ⟨pp, qq, un, pa, pb, co, n0, n1, m0, m1, out⟩ := h
  have hco := gcd_sub_mul (k := k) hk
  rw [Nat.gcd_comm b a, co] at hco
  obtain ⟨c, rfl⟩ : ∃ c, b = c + k * a := ⟨b - k * a, by omega⟩
  rw [Nat.add_sub_cancel] at *
  have e1 : p = l0 * c + (h0 + k * l0) * a := by
    simp only [Nat.add_mul, Nat.mul_add, Nat.mul_assoc, Nat.mul_comm, Nat.mul_left_comm] at *; omega
  have e2 : q = l1 * c + (h1 + k * l1) * a := by
    simp only [Nat.add_mul, Nat.mul_add, Nat.mul_assoc, Nat.mul_comm, Nat.mul_left_comm] at *; omega
  refine ⟨e1, e2, ?_, pa, ?_, by rw [Nat.gcd_comm]; exact hco, n0, n1, k0, k1, out⟩
  · simp only [Nat.add_mul, Nat.mul_add, Nat.mul_assoc, Nat.mul_comm, Nat.mul_left_comm] at *; omega
  · rcases Nat.eq_zero_or_pos c with z | z
    · exfalso
      subst z
      rw [Nat.gcd_zero_left] at hco
      subst hco
      exact out ⟨by omega, by omega⟩
    · exact z
/-- how often at most -/
def often (n o0 o1 s0 s1 k : Nat) : Nat :=
  let k1 := if 0 < s0 then (if (n - o0) / s0 < k then (n - o0) / s0 else k) else k
  if 0 < s1 then (if (n - o1) / s1 < k1 then (n - o1) / s1 else k1) else k1
theorem often_le {n o0 o1 s0 s1 k : Nat} (h0 : o0 ≤ n) (h1 : o1 ≤ n) : often n o0 o1 s0 s1 k ≤ k ∧ o0 + often n o0 o1 s0 s1 k * s0 ≤ n ∧ o1 + often n o0 o1 s0 s1 k * s1 ≤ n := by
  have key : ∀ o s j : Nat, o ≤ n → 0 < s → j ≤ (n - o) / s → o + j * s ≤ n := fun o s j h hs hj => by
    have := (Nat.le_div_iff_mul_le hs).mp hj
    omega
  have kz : ∀ o s j : Nat, o ≤ n → ¬ 0 < s → o + j * s ≤ n := fun o s j h hs => by
    have : s = 0 := by omega
    subst this
    simpa using h
  unfold often
  dsimp only
  by_cases c0 : 0 < s0 <;> by_cases c1 : 0 < s1 <;> simp only [c0, c1, if_true, if_false]
  · split <;> split <;> refine ⟨by omega, ?_, ?_⟩ <;> first
      | exact key _ _ _ h0 c0 (by omega)
      | exact key _ _ _ h1 c1 (by omega)
  · split <;> refine ⟨by omega, ?_, kz _ _ _ h1 c1⟩ <;> exact key _ _ _ h0 c0 (by omega)
  · split <;> refine ⟨by omega, kz _ _ _ h0 c0, ?_⟩ <;> exact key _ _ _ h1 c1 (by omega)
  · exact ⟨Nat.le_refl _, kz _ _ _ h0 c0, kz _ _ _ h1 c1⟩
theorem often_pos {n o0 o1 s0 s1 k : Nat} (hk : 0 < k) (h0 : o0 + s0 ≤ n) (h1 : o1 + s1 ≤ n) : 0 < often n o0 o1 s0 s1 k := by
  have key : ∀ o s : Nat, o + s ≤ n → 0 < s → 0 < (n - o) / s := fun o s h hs => Nat.div_pos (by omega) hs
  unfold often
  dsimp only
  by_cases c0 : 0 < s0 <;> by_cases c1 : 0 < s1 <;> simp only [c0, c1, if_true, if_false]
  · have := key _ _ h0 c0
    have := key _ _ h1 c1
    split <;> split <;> omega
  · have := key _ _ h0 c0
    split <;> omega
  · have := key _ _ h1 c1
    split <;> omega
  · exact hk
/-- what lies strictly between neighbours is no simpler than their middle -/
theorem Br.gap {l0 l1 h0 h1 r s : Nat} (un : h0 * l1 = l0 * h1 + 1) (g1 : l0 * s < r * l1) (g2 : r * h1 < h0 * s) : l0 + h0 ≤ r ∧ l1 + h1 ≤ s := by
  obtain ⟨x, hx⟩ : ∃ x, r * l1 = l0 * s + x + 1 := ⟨r * l1 - l0 * s - 1, by omega⟩
  obtain ⟨y, hy⟩ : ∃ y, h0 * s = r * h1 + y + 1 := ⟨h0 * s - r * h1 - 1, by omega⟩
  have e1 : r = l0 * (y + 1) + h0 * (x + 1) := by
    have t1 : r * l1 * h0 = (l0 * s + x + 1) * h0 := by rw [hx]
    have t2 : h0 * s * l0 = (r * h1 + y + 1) * l0 := by rw [hy]
    have t3 : h0 * l1 * r = (l0 * h1 + 1) * r := by rw [un]
    simp only [Nat.add_mul, Nat.mul_add, Nat.mul_assoc, Nat.mul_comm, Nat.mul_left_comm] at *
    omega
  have e2 : s = l1 * (y + 1) + h1 * (x + 1) := by
    have t1 : r * l1 * h1 = (l0 * s + x + 1) * h1 := by rw [hx]
    have t2 : h0 * s * l1 = (r * h1 + y + 1) * l1 := by rw [hy]
    have t3 : h0 * l1 * s = (l0 * h1 + 1) * s := by rw [un]
    simp only [Nat.add_mul, Nat.mul_add, Nat.mul_assoc, Nat.mul_comm, Nat.mul_left_comm] at *
    omega
  have z1 : l0 ≤ l0 * (y + 1) := Nat.le_mul_of_pos_right _ (by omega)
  have z2 : h0 ≤ h0 * (x + 1) := Nat.le_mul_of_pos_right _ (by omega)
  have z3 : l1 ≤ l1 * (y + 1) := Nat.le_mul_of_pos_right _ (by omega)
  have z4 : h1 ≤ h1 * (x + 1) := Nat.le_mul_of_pos_right _ (by omega)
  omega
def pN (a b : Nat) : D := .tuple [.int (a : Int), .int (b : Int)]
/-- a number well within reach -/
def lim : Nat := 2 ^ 700
theorem big {n : Nat} (h : n < lim) : Bg (n : Int) := bg_le (n := 700) (by rw [Int.natAbs_natCast]; exact h) (by decide)
theorem divOk_n {q : Nat} (h : 0 < q) (h2 : q < lim) : DivOk (q : Int) := ⟨by omega, Nat.lt_of_lt_of_le (by rw [Int.natAbs_natCast]; exact h2) (pow_mono2 (a := 700) (by decide))⟩
/-! ### advanced -/
theorem adv_run {n o0 o1 s0 s1 k : Nat} (h0 : o0 ≤ n) (h1 : o1 ≤ n) (l0 : s0 < lim) (l1 : s1 < lim) (lk : k < lim) : runD 6 m_advanced [.f (pN o0 o1), .f (pN s0 s1), .f (.int (n : Int)), .f (.int (k : Int))] = .ok (.f (pN (o0 + often n o0 o1 s0 s1 k * s0) (o1 + often n o0 o1 s0 s1 k * s1)), []) := by
  have e0 : (n : Int) - (o0 : Int) = ((n - o0 : Nat) : Int) := by omega
  have e1 : (n : Int) - (o1 : Int) = ((n - o1 : Nat) : Int) := by omega
  have step : ∀ (o s j : Nat) (x y : D) (c d : Option D) (ds : List D), o ≤ n → s < lim → loopL (tgT [tgN 4, tgN 5]) m_advanced_b1 (.tuple [.int (o : Int), .int (s : Int)] :: ds) [some (.f x), some (.f y), some (.f (.int (n : Int))), some (.f (.int (j : Int))), c.map .f, d.map .f] = loopL (tgT [tgN 4, tgN 5]) m_advanced_b1 ds [some (.f x), some (.f y), some (.f (.int (n : Int))), some (.f (.int (((if 0 < s then (if (n - o) / s < j then (n - o) / s else j) else j) : Nat) : Int))), some (.f (.int (o : Int))), some (.f (.int (s : Int)))] := by
    intro o s j x y c d ds ho hs
    have e : (n : Int) - (o : Int) = ((n - o : Nat) : Int) := by omega
    have t : tgT [tgN 4, tgN 5] (.tuple [.int (o : Int), .int (s : Int)]) [some (.f x), some (.f y), some (.f (.int (n : Int))), some (.f (.int (j : Int))), c.map .f, d.map .f] = .ok [some (.f x), some (.f y), some (.f (.int (n : Int))), some (.f (.int (j : Int))), some (.f (.int (o : Int))), some (.f (.int (s : Int)))] := by simp
    by_cases hs0 : 0 < s
    · have hd := divOk_n hs0 hs
      have hsI : (0 : Int) < (s : Int) := by omega
      have ed : ((n - o : Nat) : Int) / (s : Int) = (((n - o) / s : Nat) : Int) := (Int.natCast_ediv _ _).symm
      rw [if_pos hs0]
      by_cases hlt : (n - o) / s < j
      · have hltI : (((n - o) / s : Nat) : Int) < (j : Int) := by omega
        rw [if_pos hlt]
        exact loop_nx t (by simp [m_advanced_b1, hs0, e, fdivD_i hd, ed, hlt, -Int.natCast_ediv])
      · rw [if_neg hlt]
        exact loop_nx t (by simp [m_advanced_b1, hs0, e, fdivD_i hd, ed, hlt, -Int.natCast_ediv])
    · rw [if_neg hs0]
      exact loop_nx t (by simp [m_advanced_b1, hs0])
  obtain ⟨K, hK⟩ : ∃ K, K = often n o0 o1 s0 s1 k := ⟨_, rfl⟩
  obtain ⟨k1, hk1⟩ : ∃ k1 : Nat, k1 = if 0 < s0 then (if (n - o0) / s0 < k then (n - o0) / s0 else k) else k := ⟨_, rfl⟩
  have hK' : K = if 0 < s1 then (if (n - o1) / s1 < k1 then (n - o1) / s1 else k1) else k1 := by rw [hK, hk1]; rfl
  have g1 := step o0 s0 k (pN o0 o1) (pN s0 s1) none none [.tuple [.int (o1 : Int), .int (s1 : Int)]] h0 l0
  rw [← hk1] at g1
  have g2 := step o1 s1 k1 (pN o0 o1) (pN s0 s1) (some (.int (o0 : Int))) (some (.int (s0 : Int))) [] h1 l1
  rw [← hK'] at g2
  have hlp : loopL (tgT [tgN 4, tgN 5]) m_advanced_b1 [.tuple [.int (o0 : Int), .int (s0 : Int)], .tuple [.int (o1 : Int), .int (s1 : Int)]] [some (.f (pN o0 o1)), some (.f (pN s0 s1)), some (.f (.int (n : Int))), some (.f (.int (k : Int))), none, none] = .nx [some (.f (pN o0 o1)), some (.f (pN s0 s1)), some (.f (.int (n : Int))), some (.f (.int (K : Int))), some (.f (.int (o1 : Int))), some (.f (.int (s1 : Int)))] := by
    rw [show (none : Option Ce) = Option.map Ce.f none from rfl, g1]
    exact g2
  have hKl : K ≤ k := by rw [hK]; exact (often_le h0 h1).1
  have m1 : MulOk (K : Int) (s0 : Int) := bg_mul (big (by omega)) (big l0)
  have m2 : MulOk (K : Int) (s1 : Int) := bg_mul (big (by omega)) (big l1)
  rw [← hK]
  have hz : ziA (pN o0 o1) (pN s0 s1) = .ok [.tuple [.int (o0 : Int), .int (s0 : Int)], .tuple [.int (o1 : Int), .int (s1 : Int)]] := rfl
  unfold pN at *
  simp [runD_r, startE, m_advanced, hlp, hz, mulD_i m1, mulD_i m2, ziD]
structure Adv (n o0 o1 s0 s1 k : Nat) : Prop where
  h0 : o0 ≤ n
  h1 : o1 ≤ n
  l0 : s0 < lim
  l1 : s1 < lim
  lk : k < lim
noncomputable def S_advanced : Sf := specR (fun cs => ∃ n o0 o1 s0 s1 k, Adv n o0 o1 s0 s1 k ∧ cs = [.f (pN o0 o1), .f (pN s0 s1), .f (.int (n : Int)), .f (.int (k : Int))]) 6 m_advanced
theorem sem_advanced : ∀ cs c outs, S_advanced cs = .ok (c, outs) → cs.length = 4 ∧ runD 6 m_advanced cs = .ok (c, outs) := specR_sem fun cs ⟨n, o0, o1, s0, s1, k, _, h⟩ => by rw [h]; rfl
theorem adv_r {n o0 o1 s0 s1 k : Nat} (h : Adv n o0 o1 s0 s1 k) : S_advanced [.f (pN o0 o1), .f (pN s0 s1), .f (.int (n : Int)), .f (.int (k : Int))] = .ok (.f (pN (o0 + often n o0 o1 s0 s1 k * s0) (o1 + often n o0 o1 s0 s1 k * s1)), []) := by
  unfold S_advanced
  rw [specR_ok ⟨n, o0, o1, s0, s1, k, h, rfl⟩, adv_run h.h0 h.h1 h.l0 h.l1 h.lk]
/-! ### between -/
def eK (p q n l0 l1 h0 h1 : Nat) (x : D) (c d : Option D) : En := [some (.f x), some (.f (.int (n : Int))), some (.f (.int (p : Int))), some (.f (.int (q : Int))), some (.f (pN l0 l1)), some (.f (pN h0 h1)), c.map .f, d.map .f]
theorem bt_test {p q n l0 l1 h0 h1 : Nat} {x : D} {c d : Option D} : m_between_t1 (eK p q n l0 l1 h0 h1 x c d) = .ok (decide (l0 + h0 ≤ n) && decide (l1 + h1 ≤ n), eK p q n l0 l1 h0 h1 x c d) := by
  unfold eK pN
  by_cases h : l0 + h0 ≤ n
  · have hI : (l0 : Int) + (h0 : Int) ≤ (n : Int) := by omega
    have e : decide ((l1 : Int) + (h1 : Int) ≤ (n : Int)) = decide (l1 + h1 ≤ n) := by
      congr 1
      exact propext ⟨fun z => by omega, fun z => by omega⟩
    simp [m_between_t1, h, hI, e]
  · have hI : ¬ (l0 : Int) + (h0 : Int) ≤ (n : Int) := by omega
    simp [m_between_t1, h, hI]
theorem bt_low {p q n l0 l1 h0 h1 a b k : Nat} {x : D} {c d : Option D} (ea : (p : Int) * (l1 : Int) - (l0 : Int) * (q : Int) = (a : Int)) (eb : (h0 : Int) * (q : Int) - (p : Int) * (h1 : Int) = (b : Int)) (m1 : MulOk (p : Int) (l1 : Int)) (m2 : MulOk (l0 : Int) (q : Int)) (m3 : MulOk (h0 : Int) (q : Int)) (m4 : MulOk (p : Int) (h1 : Int)) (hd : DivOk (b : Int)) (hab : b < a)
    (hk : S_advanced [.f (pN l0 l1), .f (pN h0 h1), .f (.int (n : Int)), .f (.int ((a / b : Nat) : Int))] = .ok (.f (pN (l0 + k * h0) (l1 + k * h1)), [])) : m_between_w1 S_advanced (eK p q n l0 l1 h0 h1 x c d) = .nx (eK p q n (l0 + k * h0) (l1 + k * h1) h0 h1 x (some (.int (a : Int))) (some (.int (b : Int)))) := by
  have ed : (a : Int) / (b : Int) = ((a / b : Nat) : Int) := (Int.natCast_ediv _ _).symm
  have habI : (b : Int) < (a : Int) := by omega
  unfold eK
  generalize hK : pN (l0 + k * h0) (l1 + k * h1) = K at *
  unfold pN at *
  simp [m_between_w1, mulD_i m1, mulD_i m2, mulD_i m3, mulD_i m4, ea, eb, hab, habI, fdivD_i hd, ed, hk, -Int.natCast_ediv]
theorem bt_high {p q n l0 l1 h0 h1 a b k : Nat} {x : D} {c d : Option D} (ea : (p : Int) * (l1 : Int) - (l0 : Int) * (q : Int) = (a : Int)) (eb : (h0 : Int) * (q : Int) - (p : Int) * (h1 : Int) = (b : Int)) (m1 : MulOk (p : Int) (l1 : Int)) (m2 : MulOk (l0 : Int) (q : Int)) (m3 : MulOk (h0 : Int) (q : Int)) (m4 : MulOk (p : Int) (h1 : Int)) (hd : DivOk (a : Int)) (hab : ¬ b < a)
    (hk : S_advanced [.f (pN h0 h1), .f (pN l0 l1), .f (.int (n : Int)), .f (.int ((b / a : Nat) : Int))] = .ok (.f (pN (h0 + k * l0) (h1 + k * l1)), [])) : m_between_w1 S_advanced (eK p q n l0 l1 h0 h1 x c d) = .nx (eK p q n l0 l1 (h0 + k * l0) (h1 + k * l1) x (some (.int (a : Int))) (some (.int (b : Int)))) := by
  have ed : (b : Int) / (a : Int) = ((b / a : Nat) : Int) := (Int.natCast_ediv _ _).symm
  have habI : ¬ (b : Int) < (a : Int) := by omega
  unfold eK
  generalize hK : pN (h0 + k * l0) (h1 + k * l1) = K at *
  unfold pN at *
  simp [m_between_w1, mulD_i m1, mulD_i m2, mulD_i m3, mulD_i m4, ea, eb, hab, habI, fdivD_i hd, ed, hk, -Int.natCast_ediv]
theorem lt_lim {n k : Nat} (h : n < 2 ^ k) (hk : k ≤ 700) : n < lim := Nat.lt_of_lt_of_le h (Nat.pow_le_pow_right (by decide) hk)
theorem mul_lim {a b : Nat} (h : a < 2 ^ 150) (h2 : b ≤ 2 ^ 150) : a * b < lim := by
  have h3 : a * b ≤ 2 ^ 150 * 2 ^ 150 := Nat.mul_le_mul (Nat.le_of_lt h) h2
  rw [← Nat.pow_add] at h3
  exact Nat.lt_of_le_of_lt h3 (Nat.pow_lt_pow_right (by decide) (by decide))
theorem bt_while {p q n : Nat} {x : D} (hp : p < 2 ^ 150) (hq : q < 2 ^ 150) (hn : n < 2 ^ 150) : ∀ (m l0 l1 h0 h1 a b : Nat) (c d : Option D), 4 * n - (l0 + l1 + h0 + h1) ≤ m → Br p q n l0 l1 h0 h1 a b →
    ∃ (l0' l1' h0' h1' a' b' : Nat) (c' d' : Option D), sWhile m_between_t1 (m_between_w1 S_advanced) (eK p q n l0 l1 h0 h1 x c d) = .nx (eK p q n l0' l1' h0' h1' x c' d') ∧ Br p q n l0' l1' h0' h1' a' b' ∧ (n < l0' + h0' ∨ n < l1' + h1') := by
  intro m
  induction m with
  | zero =>
    intro l0 l1 h0 h1 a b c d hm B
    refine ⟨l0, l1, h0, h1, a, b, c, d, while_f ?_, B, ?_⟩
    · rw [bt_test]
      have : ¬ (l0 + h0 ≤ n ∧ l1 + h1 ≤ n) := by
        have := B.un
        rintro ⟨z1, z2⟩
        have hl : 0 < l1 := by
          rcases Nat.eq_zero_or_pos l1 with z | z
          · rw [z, Nat.mul_zero] at this; omega
          · exact z
        omega
      rw [← Bool.decide_and, decide_eq_false this]
    · have := B.un
      have hl : 0 < l1 := by
        rcases Nat.eq_zero_or_pos l1 with z | z
        · rw [z, Nat.mul_zero] at this; omega
        · exact z
      omega
  | succ m ih =>
    intro l0 l1 h0 h1 a b c d hm B
    by_cases ht : l0 + h0 ≤ n ∧ l1 + h1 ≤ n
    · have t := bt_test (p := p) (q := q) (n := n) (l0 := l0) (l1 := l1) (h0 := h0) (h1 := h1) (x := x) (c := c) (d := d)
      rw [decide_eq_true ht.1, decide_eq_true ht.2] at t
      have un := B.un
      have hl : 0 < l1 := by
        rcases Nat.eq_zero_or_pos l1 with z | z
        · rw [z, Nat.mul_zero] at un; omega
        · exact z
      have hh : 0 < h0 := by
        rcases Nat.eq_zero_or_pos h0 with z | z
        · rw [z, Nat.zero_mul] at un; omega
        · exact z
      have n0 := B.n0
      have n1 := B.n1
      have m0 := B.m0
      have m1' := B.m1
      have pa := B.pa
      have pb := B.pb
      have Ea := B.ahead
      have Eb := B.behind
      have ea : (p : Int) * (l1 : Int) - (l0 : Int) * (q : Int) = (a : Int) := by
        have : ((p * l1 : Nat) : Int) = ((l0 * q + a : Nat) : Int) := by rw [Ea]
        rw [Int.natCast_add, Int.natCast_mul, Int.natCast_mul] at this
        omega
      have eb : (h0 : Int) * (q : Int) - (p : Int) * (h1 : Int) = (b : Int) := by
        have : ((h0 * q : Nat) : Int) = ((p * h1 + b : Nat) : Int) := by rw [Eb]
        rw [Int.natCast_add, Int.natCast_mul, Int.natCast_mul] at this
        omega
      have k1 : MulOk (p : Int) (l1 : Int) := bg_mul (big (lt_lim hp (by decide))) (big (lt_lim (k := 150) (by omega) (by decide)))
      have k2 : MulOk (l0 : Int) (q : Int) := bg_mul (big (lt_lim (k := 150) (by omega) (by decide))) (big (lt_lim hq (by decide)))
      have k3 : MulOk (h0 : Int) (q : Int) := bg_mul (big (lt_lim (k := 150) (by omega) (by decide))) (big (lt_lim hq (by decide)))
      have k4 : MulOk (p : Int) (h1 : Int) := bg_mul (big (lt_lim hp (by decide))) (big (lt_lim (k := 150) (by omega) (by decide)))
      have la : a < lim := by
        have := mul_lim hp (show l1 ≤ 2 ^ 150 by omega)
        omega
      have lb : b < lim := by
        have := mul_lim hq (show h0 ≤ 2 ^ 150 by omega)
        rw [Nat.mul_comm] at this
        omega
      have ln : n < lim := lt_lim hn (by decide)
      by_cases hab : b < a
      · have hk1 : 0 < a / b := Nat.div_pos (by omega) pb
        have hkl : a / b < lim := Nat.lt_of_le_of_lt (Nat.div_le_self _ _) la
        obtain ⟨o1, o2, o3⟩ := often_le (n := n) (o0 := l0) (o1 := l1) (s0 := h0) (s1 := h1) (k := a / b) n0 n1
        have o4 := often_pos (n := n) (o0 := l0) (o1 := l1) (s0 := h0) (s1 := h1) hk1 ht.1 ht.2
        have hadv := adv_r (n := n) (o0 := l0) (o1 := l1) (s0 := h0) (s1 := h1) (k := a / b) ⟨n0, n1, by omega, by omega, hkl⟩
        generalize often n l0 l1 h0 h1 (a / b) = k at *
        have hkb : k * b ≤ a := Nat.le_trans (Nat.mul_le_mul_right b o1) (Nat.div_mul_le_self a b)
        have B' := B.low hkb o2 o3
        have hw := bt_low (x := x) (c := c) (d := d) ea eb k1 k2 k3 k4 (divOk_n pb lb) hab hadv
        have g1 : h0 ≤ k * h0 := Nat.le_mul_of_pos_left _ o4
        obtain ⟨l0', l1', h0', h1', a', b', c', d', g, g2⟩ := ih _ _ _ _ _ _ (some (.int (a : Int))) (some (.int (b : Int))) (by omega) B'
        exact ⟨l0', l1', h0', h1', a', b', c', d', by rw [while_t t hw, g], g2⟩
      · have hk1 : 0 < b / a := Nat.div_pos (by omega) pa
        have hkl : b / a < lim := Nat.lt_of_le_of_lt (Nat.div_le_self _ _) lb
        obtain ⟨o1, o2, o3⟩ := often_le (n := n) (o0 := h0) (o1 := h1) (s0 := l0) (s1 := l1) (k := b / a) m0 m1'
        have o4 := often_pos (n := n) (o0 := h0) (o1 := h1) (s0 := l0) (s1 := l1) hk1 (by omega) (by omega)
        have hadv := adv_r (n := n) (o0 := h0) (o1 := h1) (s0 := l0) (s1 := l1) (k := b / a) ⟨m0, m1', by omega, by omega, hkl⟩
        generalize often n h0 h1 l0 l1 (b / a) = k at *
        have hka : k * a ≤ b := Nat.le_trans (Nat.mul_le_mul_right a o1) (Nat.div_mul_le_self b a)
        have B' := B.high hka o2 o3
        have hw := bt_high (x := x) (c := c) (d := d) ea eb k1 k2 k3 k4 (divOk_n pa la) hab hadv
        have g1 : l1 ≤ k * l1 := Nat.le_mul_of_pos_left _ o4
        obtain ⟨l0', l1', h0', h1', a', b', c', d', g, g2⟩ := ih _ _ _ _ _ _ (some (.int (a : Int))) (some (.int (b : Int))) (by omega) B'
        exact ⟨l0', l1', h0', h1', a', b', c', d', by rw [while_t t hw, g], g2⟩
    · refine ⟨l0, l1, h0, h1, a, b, c, d, while_f ?_, B, by omega⟩
      rw [bt_test, ← Bool.decide_and, decide_eq_false ht]
def encH : Option (Nat × Nat) → D
  | none => .none
  | some h => pN h.1 h.2
/-- what between tells -/
inductive Bt (p q n : Nat) : Nat × Nat → Option (Nat × Nat) → Prop where
  | same : p ≤ n → q ≤ n → Bt p q n (p, q) (some (p, q))
  | top {l0 l1 h0 a b : Nat} : Br p q n l0 l1 h0 0 a b → (n < l0 + h0 ∨ n < l1 + 0) → Bt p q n (l0, l1) none
  | mid {l0 l1 h0 h1 a b : Nat} : Br p q n l0 l1 h0 h1 a b → 0 < h1 → (n < l0 + h0 ∨ n < l1 + h1) → Bt p q n (l0, l1) (some (h0, h1))
def tellD (lo : Nat × Nat) (hi : Option (Nat × Nat)) : D := .tuple [.str "between", pN lo.1 lo.2, encH hi]
structure Dm (p q n : Nat) : Prop where
  q0 : 0 < q
  n0 : 0 < n
  co : Nat.gcd p q = 1
  pl : p < 2 ^ 150
  ql : q < 2 ^ 150
  nl : n < 2 ^ 150
theorem bt_same {p q n : Nat} (h : p ≤ n ∧ q ≤ n) : runD 8 (m_between S_advanced) [.f (pN p q), .f (.int (n : Int))] = .ok (.f (tellD (p, q) (some (p, q))), []) := by
  have h1 : (p : Int) ≤ (n : Int) := by omega
  have h2 : (q : Int) ≤ (n : Int) := by omega
  simp [runD_r, startE, m_between, pN, tellD, encH, h, h1, h2]
theorem bt_fin {p q n l0 l1 h0 h1 : Nat} {c d : Option D} (h : ¬ (p ≤ n ∧ q ≤ n)) (g : sWhile m_between_t1 (m_between_w1 S_advanced) [some (.f (pN p q)), some (.f (.int (n : Int))), some (.f (.int (p : Int))), some (.f (.int (q : Int))), some (.f (.tuple [.int 0, .int 1])), some (.f (.tuple [.int 1, .int 0])), none, none] = .nx [some (.f (pN p q)), some (.f (.int (n : Int))), some (.f (.int (p : Int))), some (.f (.int (q : Int))), some (.f (pN l0 l1)), some (.f (pN h0 h1)), c.map .f, d.map .f]) :
    runD 8 (m_between S_advanced) [.f (pN p q), .f (.int (n : Int))] = .ok (.f (tellD (l0, l1) (if h1 = 0 then none else some (h0, h1))), []) := by
  unfold pN at *
  by_cases hp : p ≤ n
  · have hq : ¬ q ≤ n := fun z => h ⟨hp, z⟩
    by_cases hz : h1 = 0
    · subst hz
      simp [runD_r, startE, m_between, tellD, encH, hp, hq, g, pN]
    · simp [runD_r, startE, m_between, tellD, encH, hp, hq, g, pN, hz]
  · by_cases hz : h1 = 0
    · subst hz
      simp [runD_r, startE, m_between, tellD, encH, hp, g, pN]
    · simp [runD_r, startE, m_between, tellD, encH, hp, g, pN, hz]
theorem between_run {p q n : Nat} (D : Dm p q n) : ∃ lo hi, Bt p q n lo hi ∧ runD 8 (m_between S_advanced) [.f (pN p q), .f (.int (n : Int))] = .ok (.f (tellD lo hi), []) := by
  obtain ⟨q0, n0, co, pl, ql, nl⟩ := D
  by_cases h : p ≤ n ∧ q ≤ n
  · exact ⟨_, _, .same h.1 h.2, bt_same h⟩
  · have p0 : 0 < p := by
      rcases Nat.eq_zero_or_pos p with z | z
      · subst z
        rw [Nat.gcd_zero_left] at co
        omega
      · exact z
    have B : Br p q n 0 1 1 0 p q := ⟨by omega, by omega, by decide, p0, q0, co, by omega, by omega, by omega, by omega, h⟩
    obtain ⟨l0, l1, h0, h1, a, b, c, d, g, B', ho⟩ := bt_while (x := pN p q) pl ql nl (4 * n) 0 1 1 0 p q none none (by omega) B
    have r := bt_fin (c := c) (d := d) h g
    by_cases hz : h1 = 0
    · subst hz
      rw [if_pos rfl] at r
      exact ⟨_, _, .top B' ho, r⟩
    · rw [if_neg hz] at r
      exact ⟨_, _, .mid B' (by omega) ho, r⟩
noncomputable def S_between : Sf := specR (fun cs => ∃ p q n, Dm p q n ∧ cs = [.f (pN p q), .f (.int (n : Int))]) 8 (m_between S_advanced)
theorem sem_between : ∀ cs c outs, S_between cs = .ok (c, outs) → cs.length = 2 ∧ runD 8 (m_between S_advanced) cs = .ok (c, outs) := specR_sem fun cs ⟨p, q, n, _, h⟩ => by rw [h]; rfl
theorem between_r {p q n : Nat} (h : Dm p q n) : ∃ lo hi, Bt p q n lo hi ∧ S_between [.f (pN p q), .f (.int (n : Int))] = .ok (.f (tellD lo hi), []) := by
  obtain ⟨lo, hi, h1, h2⟩ := between_run h
  exact ⟨lo, hi, h1, by unfold S_between; rw [specR_ok ⟨p, q, n, h, rfl⟩, h2]⟩
def sgn (u v : Int) : Int := if u - v = 0 then 0 else if 0 < u - v then 1 else -1
theorem compare_r {a b c d : Int} (h1 : Bg a) (h2 : Bg b) (h3 : Bg c) (h4 : Bg d) : S_compare [.f (.tuple [.int a, .int b]), .f (.tuple [.int c, .int d])] = .ok (.f (.int (sgn (a * d) (c * b))), []) := if_pos ⟨h1, h2, h3, h4⟩
theorem Br.lowq {p q n l0 l1 h0 h1 a b : Nat} (h : Br p q n l0 l1 h0 h1 a b) : Nat.gcd l0 l1 = 1 ∧ Nat.gcd h0 h1 = 1 := by
  have un := h.un
  constructor
  · have d1 : Nat.gcd l0 l1 ∣ h0 * l1 := Nat.dvd_trans (Nat.gcd_dvd_right _ _) (Nat.dvd_mul_left _ _)
    have d2 : Nat.gcd l0 l1 ∣ l0 * h1 := Nat.dvd_trans (Nat.gcd_dvd_left _ _) (Nat.dvd_mul_right _ _)
    rw [un] at d1
    have := (Nat.dvd_add_right d2).mp d1
    exact Nat.dvd_one.mp this
  · have d1 : Nat.gcd h0 h1 ∣ h0 * l1 := Nat.dvd_trans (Nat.gcd_dvd_left _ _) (Nat.dvd_mul_right _ _)
    have d2 : Nat.gcd h0 h1 ∣ l0 * h1 := Nat.dvd_trans (Nat.gcd_dvd_right _ _) (Nat.dvd_mul_left _ _)
    rw [un] at d1
    have := (Nat.dvd_add_right d2).mp d1
    exact Nat.dvd_one.mp this
/-! ### nearest, near -/
/-- the fractions of between are well within reach -/
structure Sm (lo : Nat × Nat) (hi : Option (Nat × Nat)) : Prop where
  l0 : lo.1 < 2 ^ 150
  l1 : lo.2 < 2 ^ 150
  lp : 0 < lo.2
  h : ∀ x, hi = some x → x.1 < 2 ^ 150 ∧ x.2 < 2 ^ 150 ∧ 0 < x.2
theorem Bt.sm {p q n : Nat} (hn : n < 2 ^ 150) (q0 : 0 < q) {lo : Nat × Nat} {hi : Option (Nat × Nat)} (h : Bt p q n lo hi) : Sm lo hi := by
  cases h with
  | same h1 h2 => exact ⟨by dsimp only; omega, by dsimp only; omega, q0, fun x e => by cases e; exact ⟨by dsimp only; omega, by dsimp only; omega, q0⟩⟩
  | @top l0 l1 h0 a b B ho =>
    have := B.n0
    have := B.n1
    have un := B.un
    have hl : 0 < l1 := by
      rcases Nat.eq_zero_or_pos l1 with z | z
      · rw [z, Nat.mul_zero] at un; omega
      · exact z
    exact ⟨by dsimp only; omega, by dsimp only; omega, hl, fun x e => by cases e⟩
  | @mid l0 l1 h0 h1 a b B hh ho =>
    have := B.n0
    have := B.n1
    have := B.m0
    have := B.m1
    have un := B.un
    have hl : 0 < l1 := by
      rcases Nat.eq_zero_or_pos l1 with z | z
      · rw [z, Nat.mul_zero] at un; omega
      · exact z
    exact ⟨by dsimp only; omega, by dsimp only; omega, hl, fun x e => by cases e; exact ⟨by dsimp only; omega, by dsimp only; omega, hh⟩⟩
/-! the best below and above -/
/-- lo is the greatest fraction not above p/q with both parts at most n; its form is the lowest -/
structure Best (p q n : Nat) (lo : Nat × Nat) : Prop where
  n0 : lo.1 ≤ n
  n1 : lo.2 ≤ n
  p1 : 0 < lo.2
  co : Nat.gcd lo.1 lo.2 = 1
  le : lo.1 * q ≤ p * lo.2
  mx : ∀ r s, r ≤ n → s ≤ n → 0 < s → r * q ≤ p * s → r * lo.2 ≤ lo.1 * s
structure BestH (p q n : Nat) (hi : Nat × Nat) : Prop where
  n0 : hi.1 ≤ n
  n1 : hi.2 ≤ n
  p1 : 0 < hi.2
  co : Nat.gcd hi.1 hi.2 = 1
  le : p * hi.2 ≤ hi.1 * q
  mn : ∀ r s, r ≤ n → s ≤ n → 0 < s → p * s ≤ r * q → hi.1 * s ≤ r * hi.2
theorem Bt.best {p q n : Nat} (co : Nat.gcd p q = 1) (q0 : 0 < q) {lo : Nat × Nat} {hi : Option (Nat × Nat)} (h : Bt p q n lo hi) : Best p q n lo := by
  cases h with
  | same h1 h2 => exact ⟨h1, h2, q0, co, Nat.le_refl _, fun r s _ _ _ h => h⟩
  | @top l0 l1 h0 a b B ho =>
    have un := B.un
    obtain ⟨c1, c2⟩ := B.lowq
    have Ea := B.ahead
    rw [Nat.mul_zero, Nat.zero_add] at un
    have e1 : h0 = 1 ∧ l1 = 1 := by
      have := Nat.eq_one_of_mul_eq_one_right un
      have := Nat.eq_one_of_mul_eq_one_left un
      omega
    obtain ⟨rfl, rfl⟩ := e1
    have n0 := B.n0
    have m0 := B.m0
    refine ⟨n0, m0, by dsimp only; decide, c1, by dsimp only; omega, fun r s hr hs s0 hle => ?_⟩
    have : l0 = n := by omega
    subst this
    show r * 1 ≤ l0 * s
    have := Nat.le_mul_of_pos_right l0 s0
    omega
  | @mid l0 l1 h0 h1 a b B hh ho =>
    obtain ⟨c1, c2⟩ := B.lowq
    have un := B.un
    have Ea := B.ahead
    have Eb := B.behind
    have pb := B.pb
    have hl : 0 < l1 := by
      rcases Nat.eq_zero_or_pos l1 with z | z
      · rw [z, Nat.mul_zero] at un; omega
      · exact z
    refine ⟨B.n0, B.n1, hl, c1, by dsimp only; omega, fun r s hr hs s0 hle => ?_⟩
    show r * l1 ≤ l0 * s
    by_cases hc : r * l1 ≤ l0 * s
    · exact hc
    · exfalso
      have g2 : r * h1 < h0 * s := by
        -- r/s <= p/q < h0/h1
        have t1 : r * q * h1 ≤ p * s * h1 := Nat.mul_le_mul_right _ hle
        have t2 : p * h1 * s < h0 * q * s := Nat.mul_lt_mul_of_pos_right (by omega) s0
        have t3 : q * (r * h1) < q * (h0 * s) := by
          simp only [Nat.mul_assoc, Nat.mul_comm, Nat.mul_left_comm] at *
          omega
        exact Nat.lt_of_mul_lt_mul_left t3
      obtain ⟨z1, z2⟩ := Br.gap un (by omega) g2
      omega
theorem Bt.bestH {p q n : Nat} (co : Nat.gcd p q = 1) (q0 : 0 < q) {lo : Nat × Nat} {hi : Nat × Nat} (h : Bt p q n lo (some hi)) : BestH p q n hi := by
  cases h with
  | same h1 h2 => exact ⟨h1, h2, q0, co, Nat.le_refl _, fun r s _ _ _ h => h⟩
  | @mid l0 l1 h0 h1 a b B hh ho =>
    obtain ⟨c1, c2⟩ := B.lowq
    have un := B.un
    have Ea := B.ahead
    have Eb := B.behind
    have pa := B.pa
    refine ⟨B.m0, B.m1, hh, c2, by dsimp only; omega, fun r s hr hs s0 hle => ?_⟩
    show h0 * s ≤ r * h1
    by_cases hc : h0 * s ≤ r * h1
    · exact hc
    · exfalso
      have g1 : l0 * s < r * l1 := by
        have t1 : p * s * l1 ≤ r * q * l1 := Nat.mul_le_mul_right _ hle
        have t2 : l0 * q * s < p * l1 * s := Nat.mul_lt_mul_of_pos_right (by omega) s0
        have t3 : q * (l0 * s) < q * (r * l1) := by
          simp only [Nat.mul_assoc, Nat.mul_comm, Nat.mul_left_comm] at *
          omega
        exact Nat.lt_of_mul_lt_mul_left t3
      obtain ⟨z1, z2⟩ := Br.gap un g1 (by omega)
      omega
/-- above the top there is none -/
theorem Bt.none_above {p q n : Nat} {lo : Nat × Nat} (h : Bt p q n lo none) (r s : Nat) (hr : r ≤ n) (s0 : 0 < s) : r * q < p * s := by
  cases h with
  | @top l0 l1 h0 a b B ho =>
    have un := B.un
    have Ea := B.ahead
    have pa := B.pa
    rw [Nat.mul_zero, Nat.zero_add] at un
    have e1 : h0 = 1 ∧ l1 = 1 := by
      have := Nat.eq_one_of_mul_eq_one_right un
      have := Nat.eq_one_of_mul_eq_one_left un
      omega
    obtain ⟨rfl, rfl⟩ := e1
    have n0 := B.n0
    have m0 := B.m0
    have hl : l0 = n := by omega
    subst hl
    have h1 : r * q ≤ l0 * q := Nat.mul_le_mul_right _ hr
    have h2 : p * 1 ≤ p * s := Nat.mul_le_mul_left _ s0
    omega
def nearD (t : Bool) (lo : D) : Option D → D
  | none => lo
  | some h => if t = true then h else lo
theorem nearest_fin {x m L : D} {hi : Option D} {A B : D} {z : Int} (hb : S_between [.f x, .f m] = .ok (.f (.tuple [.str "between", L, hi.getD .none]), [])) (hN : ∀ h, hi = some h → h.isN = false) (h1 : ∀ h, hi = some h → S_minus [.f h, .f x] = .ok (.f A, [])) (h2 : S_minus [.f x, .f L] = .ok (.f B, [])) (h3 : S_compare [.f B, .f A] = .ok (.f (.int z), [])) :
    runD 5 (m_nearest S_between S_compare S_minus) [.f x, .f m] = .ok (.f (nearD (decide (0 < z)) L hi), []) := by
  cases hi with
  | none => simp [runD_r, startE, m_nearest, nearD, hb]
  | some h =>
    have k := h1 h rfl
    have hn := hN h rfl
    by_cases hz : z ≤ 0
    · have : ¬ 0 < z := by omega
      simp [runD_r, startE, m_nearest, nearD, hb, hn, k, h2, h3, hz, this]
    · have : 0 < z := by omega
      simp [runD_r, startE, m_nearest, nearD, hb, hn, k, h2, h3, hz, this]
theorem red_bg {a b : Int} (ha : Bg a) (hb : Bg b) : Bg (redI a b).1 ∧ Bg (redI a b).2 := by
  have key : ∀ x g : Int, Bg x → Bg (x / g) := fun x g h => Nat.lt_of_le_of_lt (Int.natAbs_ediv_le_natAbs x g) h
  exact ⟨key _ _ ha, key _ _ hb⟩
theorem mul150 {a b : Nat} (h : a < 2 ^ 150) (h2 : b < 2 ^ 150) : a * b < 2 ^ 300 := by
  have h3 : a * b ≤ 2 ^ 150 * 2 ^ 150 := Nat.mul_le_mul (Nat.le_of_lt h) (Nat.le_of_lt h2)
  have h4 : a * b < 2 ^ 150 * 2 ^ 150 := by
    rcases Nat.eq_zero_or_pos b with z | z
    · subst z; rw [Nat.mul_zero]; decide
    · exact Nat.lt_of_lt_of_le (Nat.mul_lt_mul_of_pos_right h z) (Nat.mul_le_mul_left _ (Nat.le_of_lt h2))
  rw [← Nat.pow_add] at h4
  exact h4
theorem sub_bg {x y : Nat} (h : x < 2 ^ 300) (h2 : y < 2 ^ 300) : Bg ((x : Int) - (y : Int)) := bg_le (n := 300) (by omega) (by decide)
theorem minus_n {a b c d : Nat} (ha : a < 2 ^ 150) (hb : b < 2 ^ 150) (hc : c < 2 ^ 150) (hd : d < 2 ^ 150) (b0 : 0 < b) (d0 : 0 < d) : S_minus [.f (pN a b), .f (pN c d)] = .ok (.f (qD (redI ((a : Int) * d - c * b) ((b : Int) * d))), []) ∧ Bg (redI ((a : Int) * d - c * b) ((b : Int) * d)).1 ∧ Bg (redI ((a : Int) * d - c * b) ((b : Int) * d)).2 := by
  have hbd : (0 : Int) < (b : Int) * (d : Int) := Int.mul_pos (by omega) (by omega)
  have g : ∀ {n : Nat}, n < 2 ^ 150 → Bg (n : Int) := fun h => big (lt_lim h (by decide))
  refine ⟨if_pos ⟨hbd, g ha, g hb, g hc, g hd⟩, ?_⟩
  have e1 : (a : Int) * d - c * b = ((a * d : Nat) : Int) - ((c * b : Nat) : Int) := by rw [Int.natCast_mul, Int.natCast_mul]
  have e2 : (b : Int) * d = ((b * d : Nat) : Int) := by rw [Int.natCast_mul]
  refine red_bg ?_ ?_
  · rw [e1]; exact sub_bg (mul150 ha hd) (mul150 hc hb)
  · rw [e2]; exact big (lt_lim (mul150 hb hd) (by decide))
structure Sml (p q n : Nat) : Prop where
  d : Dm p q n
  p1 : p < 1000
  q1 : q < 1000
  n1 : n < 1000
theorem Bt.gcds {p q n : Nat} (co : Nat.gcd p q = 1) {lo : Nat × Nat} {hi : Option (Nat × Nat)} (h : Bt p q n lo hi) : Nat.gcd lo.1 lo.2 = 1 ∧ ∀ y, hi = some y → Nat.gcd y.1 y.2 = 1 := by
  cases h with
  | same h1 h2 => exact ⟨co, fun y hy => by cases hy; exact co⟩
  | top B ho => exact ⟨B.lowq.1, fun y hy => by cases hy⟩
  | mid B hh ho => exact ⟨B.lowq.1, fun y hy => by cases hy; exact B.lowq.2⟩
noncomputable def S_nearest : Sf := ShW.spN 2 5 (m_nearest S_between S_compare S_minus)
theorem sem_nearest : ∀ cs c outs, S_nearest cs = .ok (c, outs) → cs.length = 2 ∧ runD 5 (m_nearest S_between S_compare S_minus) cs = .ok (c, outs) := ShW.spN_sem
/-- nearest tells a fraction within the bound -/
theorem nearest_some {p q n : Nat} (D : Sml p q n) : ∃ a b : Nat, S_nearest [.f (pN p q), .f (.int (n : Int))] = .ok (.f (pN a b), []) ∧ a ≤ n ∧ 0 < b ∧ b ≤ n ∧ Nat.gcd a b = 1 := by
  obtain ⟨lo, hi, h, hb⟩ := between_r D.d
  have B := h.best D.d.co D.d.q0
  have gs := h.gcds D.d.co
  have n1 := D.n1
  have b0 := B.n0
  have b1 := B.n1
  have p1 := D.p1
  have q1 := D.q1
  obtain ⟨e1, f1, f2⟩ := minus_n (a := p) (b := q) (c := lo.1) (d := lo.2) (by omega) (by omega) (by omega) (by omega) D.d.q0 B.p1
  generalize redI ((p : Int) * lo.2 - lo.1 * q) ((q : Int) * lo.2) = Y at *
  have eE : encH hi = (hi.map fun x => pN x.1 x.2).getD .none := by cases hi <;> rfl
  unfold tellD at hb
  rw [eE] at hb
  have hN : ∀ x, (hi.map fun x : Nat × Nat => pN x.1 x.2) = some x → x.isN = false := by
    intro x hx
    cases hi with
    | none => cases hx
    | some y => cases hx; rfl
  cases hi with
  | none =>
    exact ⟨lo.1, lo.2, ShW.spN_r rfl (nearest_fin (A := qD Y) hb hN (fun x hx => by cases hx) e1 (compare_r f1 f2 f1 f2)), b0, B.p1, b1, gs.1⟩
  | some y =>
    have H := h.bestH D.d.co D.d.q0
    have c0 := H.n0
    have c1 := H.n1
    obtain ⟨e2, g1, g2⟩ := minus_n (a := y.1) (b := y.2) (c := p) (d := q) (by omega) (by omega) (by omega) (by omega) H.p1 D.d.q0
    generalize redI ((y.1 : Int) * q - p * y.2) ((y.2 : Int) * q) = Z at *
    have r := nearest_fin (A := qD Z) hb hN (fun x hx => by cases hx; exact e2) e1 (compare_r f1 f2 g1 g2)
    unfold nearD at r
    by_cases ht : decide (0 < sgn (Y.1 * Z.2) (Z.1 * Y.2)) = true
    · refine ⟨y.1, y.2, ShW.spN_r rfl (r.trans ?_), c0, H.p1, c1, gs.2 y rfl⟩
      simp only [Option.map_some]
      rw [if_pos ht]
    · refine ⟨lo.1, lo.2, ShW.spN_r rfl (r.trans ?_), b0, B.p1, b1, gs.1⟩
      simp only [Option.map_some]
      rw [if_neg ht]
end ShN

namespace Md
open PySem L2 DL PyProof.Rows
noncomputable def m_first_off_e1 (S_count : Sf) : M D :=
  (mZ (m2 subD (mH (m2 mulD (mH (mN (mVar 10))) (mH (mN (mVar 5))))) (mH (m2 mulD (mH (mN (mVar 6))) (mH (mCall S_count (aCons (aD (mVar 0)) (aCons (aD (mVar 1)) (aCons (aD (mVar 2)) (aCons (aD (mVar 10)) aNil))))))))))
noncomputable def m_first_off_b1 : En → Out :=
  (sIf (mBool (m2 gtD (mH (mL absD (aCons (mH (mN (mVar 11))) aNil))) (mH (mN (mVar 7))))) (sRet (mN (mVar 10))) sNext)
noncomputable def m_first_off_e2 : M D :=
  (mZ (m1 negD (mH (mN (mVar 11)))))
noncomputable def m_first_off_e3 : M D :=
  (mZ (m2 addD (mH (m2 mulD (mH (m2 addD (mH (m2 fdivD (mH (m2 subD (mH (mN (mVar 7))) (mH (mN (mVar 11))))) (mH (mN (mVar 12))))) (mH (mN (mC (.int 1)))))) (mH (mN (mVar 8))))) (mH (mN (mVar 10)))))
noncomputable def m_first_off (S_count : Sf) : En → Out :=
  (sSeq (sTgt (tgT [(tgN 5), (tgN 6)]) (mVar 3))
    (sSeq (sAsgF 7 (mZ (m2 fdivD (mH (m2 mulD (mH (m2 ixD (mH (mN (mVar 4))) (mH (mN (mC (.int 0)))))) (mH (mN (mVar 6))))) (mH (m2 ixD (mH (mN (mVar 4))) (mH (mN (mC (.int 1)))))))))
    (sSeq (sAsgF 8 (mZ (m2 fdivD (mH (mN (mVar 1))) (mH (mL gcdD (aCons (mH (mN (mVar 0))) (aCons (mH (mN (mVar 1))) aNil)))))))
    (sSeq (sAsgF 9 (mZ (mComp (mRng1 (aCons (mVar 8) aNil)) (tgN 10) [10] mYes (m_first_off_e1 S_count))))
    (sSeq (sFor (mEnum (mVar 9)) (tgT [(tgN 10), (tgN 11)]) m_first_off_b1)
    (sSeq (sAsgF 12 (mZ (m2 subD (mH (m2 mulD (mH (mN (mVar 8))) (mH (mN (mVar 5))))) (mH (m2 mulD (mH (mN (mVar 6))) (mH (m2 fdivD (mH (m2 mulD (mH (mN (mVar 0))) (mH (mN (mVar 8))))) (mH (mN (mVar 1))))))))))
    (sSeq (sIf (mBool (m2 eqD (mH (mN (mVar 12))) (mH (mN (mC (.int 0)))))) (sRet (mN (mC .none))) sNext)
    (sSeq (sIf (mBool (m2 ltD (mH (mN (mVar 12))) (mH (mN (mC (.int 0)))))) (sSeq (sAsgF 12 (mZ (m1 negD (mH (mN (mVar 12))))))
    (sAsgF 9 (mZ (mComp (mSeqA (mVar 9)) (tgN 11) [11] mYes m_first_off_e2)))) sNext)
    (sRet (mL minD (aCons (mH (mComp (mEnum (mVar 9)) (tgT [(tgN 10), (tgN 11)]) [10, 11] mYes m_first_off_e3)) aNil)))))))))))
noncomputable def m_first_in_t1 : M Bool :=
  (mBool (m2 gtD (mH (mN (mVar 2))) (mH (mN (mC (.int 0))))))
noncomputable def m_first_in_w1 : En → Out :=
  (sSeq (sIf (mBool (m2 eqD (mH (mN (mVar 0))) (mH (mN (mC (.int 0)))))) (sRet (mN (mC .none))) sNext)
    (sSeq (sIf (mBool (m2 gtD (mH (m2 mulD (mH (mN (mC (.int 2)))) (mH (mN (mVar 0))))) (mH (mN (mVar 1))))) (sPar3 0 2 3 (aCons (mZ (m2 subD (mH (mN (mVar 1))) (mH (mN (mVar 0))))) (aCons (mZ (m2 subD (mH (mN (mVar 1))) (mH (mN (mVar 3))))) (aCons (mZ (m2 subD (mH (mN (mVar 1))) (mH (mN (mVar 2))))) aNil)))) sNext)
    (sSeq (sAsgF 5 (mZ (m1 negD (mH (m2 fdivD (mH (m1 negD (mH (mN (mVar 2))))) (mH (mN (mVar 0))))))))
    (sSeq (sIf (mBool (m2 leD (mH (m2 mulD (mH (mN (mVar 5))) (mH (mN (mVar 0))))) (mH (mN (mVar 3))))) sBreak sNext)
    (sSeq (sApp 4 (mTup (aCons (mVar 0) (aCons (mVar 1) (aCons (mVar 2) aNil)))))
    (sTgt (tgT [(tgN 0), (tgN 1), (tgN 2), (tgN 3)]) (mTup (aCons (mZ (m2 modD (mH (m1 negD (mH (mN (mVar 1))))) (mH (mN (mVar 0))))) (aCons (mVar 0) (aCons (mZ (m2 modD (mH (mN (mVar 2))) (mH (mN (mVar 0))))) (aCons (mZ (m2 modD (mH (mN (mVar 3))) (mH (mN (mVar 0))))) aNil)))))))))))
noncomputable def m_first_in_b1 : En → Out :=
  (sAsgF 5 (mZ (m1 negD (mH (m2 fdivD (mH (m1 negD (mH (m2 addD (mH (mN (mVar 8))) (mH (m2 mulD (mH (mN (mVar 7))) (mH (mN (mVar 5))))))))) (mH (mN (mVar 6))))))))
noncomputable def m_first_in : En → Out :=
  (sSeq (sAsgF 0 (mZ (m2 modD (mH (mN (mVar 0))) (mH (mN (mVar 1))))))
    (sSeq (sAsg 4 (mLst aNil))
    (sSeq (sAsgF 5 (mC (.int 0)))
    (sSeq (sWhile m_first_in_t1 m_first_in_w1)
    (sFrz 4 (sSeq (sFor (mRev (mVar 4)) (tgT [(tgN 6), (tgN 7), (tgN 8)]) m_first_in_b1)
    (sRet (mN (mVar 5)))))))))
noncomputable def m_gaps_t1 : M Bool :=
  (mBool (m2 ltD (mH (m2 addD (mH (mN (mVar 5))) (mH (mN (mVar 6))))) (mH (mN (mVar 2)))))
noncomputable def m_gaps_w1 : En → Out :=
  (sIf (mBool (m2 gtD (mH (mN (mVar 3))) (mH (mN (mVar 4))))) (sSeq (sAsgF 7 (mZ (mL minD (aCons (mH (m2 fdivD (mH (m2 subD (mH (m2 subD (mH (mN (mVar 2))) (mH (mN (mC (.int 1)))))) (mH (mN (mVar 5))))) (mH (mN (mVar 6))))) (aCons (mH (m2 fdivD (mH (m2 subD (mH (mN (mVar 3))) (mH (mN (mC (.int 1)))))) (mH (mN (mVar 4))))) aNil)))))
    (sParN 3 5 (mN (mZ (m2 subD (mH (mN (mVar 3))) (mH (m2 mulD (mH (mN (mVar 7))) (mH (mN (mVar 4)))))))) (mN (mZ (m2 addD (mH (mN (mVar 5))) (mH (m2 mulD (mH (mN (mVar 7))) (mH (mN (mVar 6)))))))))) (sSeq (sAsgF 7 (mZ (mL minD (aCons (mH (m2 fdivD (mH (m2 subD (mH (m2 subD (mH (mN (mVar 2))) (mH (mN (mC (.int 1)))))) (mH (mN (mVar 6))))) (mH (mN (mVar 5))))) (aCons (mH (m2 fdivD (mH (m2 subD (mH (mN (mVar 4))) (mH (mN (mC (.int 1)))))) (mH (mN (mVar 3))))) aNil)))))
    (sParN 4 6 (mN (mZ (m2 subD (mH (mN (mVar 4))) (mH (m2 mulD (mH (mN (mVar 7))) (mH (mN (mVar 3)))))))) (mN (mZ (m2 addD (mH (mN (mVar 6))) (mH (m2 mulD (mH (mN (mVar 7))) (mH (mN (mVar 5)))))))))))
noncomputable def m_gaps_b1 : En → Out :=
  (sIf (mBool (m2 gtD (mH (mN (mVar 10))) (mH (mN (mC (.int 0)))))) (sDPut 8 (mVar 9) (mZ (m2 addD (mH (mN (mGetO (mSl 8) (mVar 9) (mC (.int 0))))) (mH (mN (mVar 10)))))) sNext)
noncomputable def m_gaps : En → Out :=
  (sSeq (sIf (mBool (m2 eqD (mH (mN (mVar 2))) (mH (mN (mC (.int 1)))))) (sRet (mN (mTup (aCons (mTup (aCons (mVar 1) (aCons (mC (.int 1)) aNil))) aNil)))) sNext)
    (sSeq (sTgt (tgT [(tgN 3), (tgN 4), (tgN 5), (tgN 6)]) (mTup (aCons (mZ (m2 modD (mH (mN (mVar 0))) (mH (mN (mVar 1))))) (aCons (mZ (m2 subD (mH (mN (mVar 1))) (mH (m2 modD (mH (mN (mVar 0))) (mH (mN (mVar 1))))))) (aCons (mC (.int 1)) (aCons (mC (.int 1)) aNil))))))
    (sSeq (sWhile m_gaps_t1 m_gaps_w1)
    (sSeq (sAsg 8 (mDNew false))
    (sSeq (sFor (mSeqA (mTup (aCons (mTup (aCons (mVar 3) (aCons (mZ (m2 subD (mH (mN (mVar 2))) (mH (mN (mVar 5))))) aNil))) (aCons (mTup (aCons (mVar 4) (aCons (mZ (m2 subD (mH (mN (mVar 2))) (mH (mN (mVar 6))))) aNil))) (aCons (mTup (aCons (mZ (m2 addD (mH (mN (mVar 3))) (mH (mN (mVar 4))))) (aCons (mZ (m2 subD (mH (m2 addD (mH (mN (mVar 5))) (mH (mN (mVar 6))))) (mH (mN (mVar 2))))) aNil))) aNil))))) (tgT [(tgN 9), (tgN 10)]) m_gaps_b1)
    (sRet (mL tupleD (aCons (mH (mSortItems (mSl 8))) aNil))))))))
noncomputable def m_law_product (S_law_ratio : Sf) : En → Out :=
  (sRet (mCall S_law_ratio (aCons (aD (mZ (m2 mulD (mH (m2 ixD (mH (mN (mVar 0))) (mH (mN (mC (.int 0)))))) (mH (m2 ixD (mH (mN (mVar 1))) (mH (mN (mC (.int 0))))))))) (aCons (aD (mZ (m2 mulD (mH (m2 ixD (mH (mN (mVar 0))) (mH (mN (mC (.int 1)))))) (mH (m2 ixD (mH (mN (mVar 1))) (mH (mN (mC (.int 1))))))))) aNil))))
noncomputable def m_law_off_b1 (S_law_minus S_law_product S_law_less : Sf) : En → Out :=
  (sSeq (sAsgF 7 (mZ (mCall S_law_minus (aCons (aD (mZ (mCall S_law_product (aCons (aD (mVar 3)) (aCons (aD (mTup (aCons (mVar 6) (aCons (mC (.int 1)) aNil)))) aNil))))) (aCons (aD (mTup (aCons (mZ (m2 fdivD (mH (m2 addD (mH (m2 mulD (mH (mN (mVar 0))) (mH (mN (mVar 6))))) (mH (mN (mVar 2))))) (mH (mN (mVar 1))))) (aCons (mC (.int 1)) aNil)))) aNil)))))
    (sIf (mTru (mH (mCall S_law_less (aCons (aD (mVar 4)) (aCons (aD (mTup (aCons (mZ (mL absD (aCons (mH (m2 ixD (mH (mN (mVar 7))) (mH (mN (mC (.int 0)))))) aNil))) (aCons (mZ (m2 ixD (mH (mN (mVar 7))) (mH (mN (mC (.int 1)))))) aNil)))) aNil))))) (sRet (mN (mVar 6))) sNext))
noncomputable def m_law_off (S_law_minus S_law_product S_law_less : Sf) : En → Out :=
  (sSeq (sFor (mRng1 (aCons (mVar 5) aNil)) (tgN 6) (m_law_off_b1 S_law_minus S_law_product S_law_less))
    (sRet (mN (mC .none))))
noncomputable def m_law_gaps_e1 : M D :=
  (mZ (m2 modD (mH (mL intD (aCons (mH (m2 mulD (mH (mN (mVar 5))) (mH (mN (mVar 0))))) aNil))) (mH (mN (mVar 1)))))
noncomputable def m_law_gaps_e2 : M D :=
  (mZ (m2 subD (mH (m2 ixD (mH (mN (mVar 3))) (mH (m2 addD (mH (mN (mVar 5))) (mH (mN (mC (.int 1)))))))) (mH (m2 ixD (mH (mN (mVar 3))) (mH (mN (mVar 5)))))))
noncomputable def m_law_gaps_c1 : M Bool :=
  (mBool (m2 eqD (mH (mN (mVar 7))) (mH (mN (mVar 6)))))
noncomputable def m_law_gaps_e3 : M D :=
  (mVar 7)
noncomputable def m_law_gaps_e4 : M D :=
  (mTup (aCons (mVar 6) (aCons (mZ (mL lenD (aCons (mH (mComp (mSeqA (mVar 4)) (tgN 7) [7] m_law_gaps_c1 m_law_gaps_e3)) aNil))) aNil)))
noncomputable def m_law_gaps : En → Out :=
  (sSeq (sAsgF 3 (mZ (mSortSet (mZ (mComp (mRng1 (aCons (mVar 2) aNil)) (tgN 5) [5] mYes m_law_gaps_e1)))))
    (sSeq (sAsgF 4 (mZ (m2 addD (mH (mComp (mRng1 (aCons (mZ (m2 subD (mH (mL lenD (aCons (mH (mN (mVar 3))) aNil))) (mH (mN (mC (.int 1)))))) aNil)) (tgN 5) [5] mYes m_law_gaps_e2)) (mH (mLst (aCons (mZ (m2 subD (mH (m2 addD (mH (m2 ixD (mH (mN (mVar 3))) (mH (mN (mC (.int 0)))))) (mH (mN (mVar 1))))) (mH (m2 ixD (mH (mN (mVar 3))) (mH (m1 negD (mH (mN (mC (.int 1)))))))))) aNil))))))
    (sRet (mL tupleD (aCons (mH (mComp (mSeqA (mZ (mSortSet (mVar 4)))) (tgN 6) [6] mYes m_law_gaps_e4)) aNil)))))
noncomputable def m_law_d46cc9_b1 (S_law_draw S_law_ratio S_law_plus S_law_pick S_first_off S_law_like S_law_off : Sf) : En → Out :=
  (sSeq (sAsgF 6 (mZ (mCall S_law_ratio (aCons (aD (mZ (mCall S_law_draw (aCons (aS 1) (aCons (aD (mC (.int 30))) aNil))))) (aCons (aD (mZ (m2 addD (mH (mN (mC (.int 1)))) (mH (mCall S_law_draw (aCons (aS 1) (aCons (aD (mC (.int 12))) aNil))))))) aNil)))))
    (sSeq (sAsgF 7 (mZ (mCall S_law_plus (aCons (aD (mZ (mCall S_law_ratio (aCons (aD (mVar 3)) (aCons (aD (mVar 2)) aNil))))) (aCons (aD (mZ (mCall S_law_pick (aCons (aS 1) (aCons (aD (mZ (mLst (aCons (mTup (aCons (mC (.int 0)) (aCons (mC (.int 1)) aNil))) (aCons (mZ (mCall S_law_ratio (aCons (aD (mC (.int 1))) (aCons (aD (mZ (m2 addD (mH (mN (mC (.int 1)))) (mH (mCall S_law_draw (aCons (aS 1) (aCons (aD (mC (.int 30))) aNil))))))) aNil)))) (aCons (mZ (mCall S_law_ratio (aCons (aD (mZ (m2 subD (mH (mN (mC (.int 0)))) (mH (mN (mC (.int 1))))))) (aCons (aD (mZ (m2 addD (mH (mN (mC (.int 1)))) (mH (mCall S_law_draw (aCons (aS 1) (aCons (aD (mC (.int 30))) aNil))))))) aNil)))) aNil)))))) aNil))))) aNil)))))
    (sSeq (sAsgF 8 (mZ (mCall S_first_off (aCons (aD (mVar 3)) (aCons (aD (mVar 2)) (aCons (aD (mVar 4)) (aCons (aD (mVar 7)) (aCons (aD (mVar 6)) aNil))))))))
    (sIf (mBool (m2 eqD (mH (mN (mVar 7))) (mH (mCall S_law_ratio (aCons (aD (mVar 3)) (aCons (aD (mVar 2)) aNil)))))) (sIf (mNot (mTru (mH (mCall S_law_like (aCons (aD (mVar 8)) (aCons (aD (mZ (mCall S_law_off (aCons (aD (mVar 3)) (aCons (aD (mVar 2)) (aCons (aD (mVar 4)) (aCons (aD (mVar 7)) (aCons (aD (mVar 6)) (aCons (aD (mVar 2)) aNil))))))))) aNil)))))) (sRet (mN (mC (.bool false)))) sNext) (sSeq (sAsgF 9 (mZ (mCall S_law_off (aCons (aD (mVar 3)) (aCons (aD (mVar 2)) (aCons (aD (mVar 4)) (aCons (aD (mVar 7)) (aCons (aD (mVar 6)) (aCons (aD (mC (.int 300))) aNil)))))))))
    (sIf (mOr (mAnd (mBool (m2 isntD (mH (mN (mVar 9))) (mH (mN (mC .none))))) (mNot (mTru (mH (mCall S_law_like (aCons (aD (mVar 8)) (aCons (aD (mVar 9)) aNil))))))) (mAnd (mBool (m2 isD (mH (mN (mVar 9))) (mH (mN (mC .none))))) (mOr (mNot (mTru (mH (mN (mIs "int" (mH (mN (mVar 8)))))))) (mBool (m2 ltD (mH (mN (mVar 8))) (mH (mN (mC (.int 300))))))))) (sRet (mN (mC (.bool false)))) sNext))))))
noncomputable def m_law_d46cc9_b2 (S_law_minus S_law_product S_law_less : Sf) : En → Out :=
  (sSeq (sAsgF 15 (mZ (mCall S_law_minus (aCons (aD (mZ (mCall S_law_product (aCons (aD (mVar 10)) (aCons (aD (mTup (aCons (mVar 13) (aCons (mC (.int 1)) aNil)))) aNil))))) (aCons (aD (mTup (aCons (mZ (m2 fdivD (mH (m2 addD (mH (m2 mulD (mH (mN (mVar 3))) (mH (mN (mVar 13))))) (mH (mN (mVar 4))))) (mH (mN (mVar 2))))) (aCons (mC (.int 1)) aNil)))) aNil)))))
    (sIf (mAnd (mBool (m2 geD (mH (mN (mVar 13))) (mH (mN (mC (.int 0)))))) (mBool (m2 neD (mH (mCall S_law_less (aCons (aD (mVar 11)) (aCons (aD (mTup (aCons (mZ (mL absD (aCons (mH (m2 ixD (mH (mN (mVar 15))) (mH (mN (mC (.int 0)))))) aNil))) (aCons (mZ (m2 ixD (mH (mN (mVar 15))) (mH (mN (mC (.int 1)))))) aNil)))) aNil)))) (mH (mN (mVar 14)))))) (sRet (mN (mC (.bool false)))) sNext))
noncomputable def m_law_d46cc9_c1 : M Bool :=
  (mBool (mChain leD leD (mH (mN (mVar 17))) (mH (m2 modD (mH (mL intD (aCons (mH (m2 mulD (mH (mN (mVar 13))) (mH (mN (mVar 19))))) aNil))) (mH (mN (mVar 16))))) (mH (mN (mVar 18)))))
noncomputable def m_law_d46cc9_e1 : M D :=
  (mVar 13)
noncomputable def m_law_d46cc9_b3 (S_law_draw : Sf) : En → Out :=
  (sAsgF 21 (mZ (m2 addD (mH (m2 addD (mH (m2 mulD (mH (mN (mVar 21))) (mH (mN (mC (.int 1009)))))) (mH (mN (mC (.int 1)))))) (mH (mCall S_law_draw (aCons (aS 1) (aCons (aD (mC (.int 900))) aNil)))))))
noncomputable def m_law_d46cc9_c2 : M Bool :=
  (mBool (m2 eqD (mH (m2 modD (mH (mL intD (aCons (mH (m2 mulD (mH (mN (mVar 22))) (mH (mN (mVar 19))))) aNil))) (mH (mN (mVar 21))))) (mH (mN (mVar 23)))))
noncomputable def m_law_d46cc9_e2 : M D :=
  (mVar 22)
noncomputable def m_law_d46cc9_e3 : M D :=
  (mZ (m2 modD (mH (mL intD (aCons (mH (m2 mulD (mH (mN (mVar 22))) (mH (mN (mVar 19))))) aNil))) (mH (mN (mVar 16)))))
noncomputable def m_law_d46cc9_e4 : M D :=
  (mVar 29)
noncomputable def m_law_d46cc9_e5 : M D :=
  (mZ (m2 mulD (mH (mN (mVar 28))) (mH (mN (mVar 29)))))
noncomputable def m_law_d46cc9 (S_law_digits S_law_draw S_law_ratio S_law_plus S_law_pick S_first_off S_law_like S_law_off S_law_number S_law_minus S_law_product S_law_less S_first_in S_gaps S_law_gaps S_law_gcd : Sf) : En → Out :=
  (sSeq (sAsg 1 (mLst (aCons (mZ (mCall S_law_digits (aCons (aD (mVar 0)) (aCons (aD (mC (.int 0))) (aCons (aD (mC (.int 63))) aNil))))) (aCons (mC (.int 0)) aNil))))
    (sSeq (sAsgF 2 (mZ (m2 addD (mH (mN (mC (.int 1)))) (mH (mCall S_law_draw (aCons (aS 1) (aCons (aD (mC (.int 30))) aNil)))))))
    (sSeq (sParN 3 4 (mN (mZ (mCall S_law_draw (aCons (aS 1) (aCons (aD (mZ (m2 addD (mH (mN (mVar 2))) (mH (mN (mC (.int 1))))))) aNil))))) (mN (mZ (mCall S_law_draw (aCons (aS 1) (aCons (aD (mVar 2)) aNil))))))
    (sSeq (sFor (mRng1 (aCons (mC (.int 3)) aNil)) (tgN 5) (m_law_d46cc9_b1 S_law_draw S_law_ratio S_law_plus S_law_pick S_first_off S_law_like S_law_off))
    (sSeq (sParN 10 11 (mN (mZ (mCall S_law_plus (aCons (aD (mZ (mCall S_law_ratio (aCons (aD (mVar 3)) (aCons (aD (mVar 2)) aNil))))) (aCons (aD (mTup (aCons (mC (.int 1)) (aCons (mC (.int 10)) aNil)))) aNil))))) (mN (mTup (aCons (mZ (m2 addD (mH (mN (mC (.int 1000)))) (mH (mCall S_law_draw (aCons (aS 1) (aCons (aD (mC (.int 900))) aNil)))))) (aCons (mC (.int 1)) aNil)))))
    (sSeq (sAsgF 12 (mZ (mCall S_first_off (aCons (aD (mVar 3)) (aCons (aD (mVar 2)) (aCons (aD (mVar 4)) (aCons (aD (mVar 10)) (aCons (aD (mVar 11)) aNil))))))))
    (sSeq (sIf (mNot (mTru (mH (mCall S_law_number (aCons (aD (mVar 12)) (aCons (aD (mC (.int 0))) (aCons (aD (mZ (m2 powD (mH (mN (mC (.int 10)))) (mH (mN (mC (.int 9))))))) aNil))))))) (sRet (mN (mC (.bool false)))) sNext)
    (sSeq (sFor (mSeqA (mTup (aCons (mTup (aCons (mVar 12) (aCons (mC (.bool true)) aNil))) (aCons (mTup (aCons (mZ (m2 subD (mH (mN (mVar 12))) (mH (mN (mC (.int 1)))))) (aCons (mC (.bool false)) aNil))) (aCons (mTup (aCons (mZ (m2 subD (mH (mN (mVar 12))) (mH (mN (mC (.int 2)))))) (aCons (mC (.bool false)) aNil))) aNil))))) (tgT [(tgN 13), (tgN 14)]) (m_law_d46cc9_b2 S_law_minus S_law_product S_law_less))
    (sSeq (sAsgF 16 (mZ (m2 addD (mH (mN (mC (.int 2)))) (mH (mCall S_law_draw (aCons (aS 1) (aCons (aD (mC (.int 200))) aNil)))))))
    (sSeq (sAsgF 17 (mZ (mCall S_law_draw (aCons (aS 1) (aCons (aD (mVar 16)) aNil)))))
    (sSeq (sAsgF 18 (mZ (mL minD (aCons (mH (m2 subD (mH (mN (mVar 16))) (mH (mN (mC (.int 1)))))) (aCons (mH (m2 addD (mH (mN (mVar 17))) (mH (mCall S_law_draw (aCons (aS 1) (aCons (aD (mC (.int 9))) aNil)))))) aNil)))))
    (sSeq (sAsgF 19 (mZ (m2 subD (mH (mCall S_law_draw (aCons (aS 1) (aCons (aD (mC (.int 400))) aNil)))) (mH (mN (mC (.int 200)))))))
    (sSeq (sAsgF 20 (mZ (mComp (mRng1 (aCons (mVar 16) aNil)) (tgN 13) [13] m_law_d46cc9_c1 m_law_d46cc9_e1)))
    (sSeq (sIf (mNot (mTru (mH (mCall S_law_like (aCons (aD (mZ (mCall S_first_in (aCons (aD (mVar 19)) (aCons (aD (mVar 16)) (aCons (aD (mVar 17)) (aCons (aD (mVar 18)) aNil))))))) (aCons (aD (mZ (mIf (mBool (m2 neD (mH (mN (mVar 20))) (mH (mLst aNil)))) (m2 ixD (mH (mN (mVar 20))) (mH (mN (mC (.int 0))))) (mN (mC .none))))) aNil)))))) (sRet (mN (mC (.bool false)))) sNext)
    (sSeq (sAsgF 21 (mC (.int 1)))
    (sSeq (sFor (mRng1 (aCons (mZ (m2 addD (mH (mN (mC (.int 3)))) (mH (mCall S_law_draw (aCons (aS 1) (aCons (aD (mC (.int 9))) aNil)))))) aNil)) (tgN 22) (m_law_d46cc9_b3 S_law_draw))
    (sSeq (sTgt (tgT [(tgN 19), (tgN 13)]) (mTup (aCons (mZ (m2 addD (mH (m2 fdivD (mH (mN (mVar 21))) (mH (mN (mC (.int 3)))))) (mH (mCall S_law_draw (aCons (aS 1) (aCons (aD (mC (.int 900))) aNil)))))) (aCons (mZ (mCall S_law_draw (aCons (aS 1) (aCons (aD (mC (.int 900))) aNil)))) aNil))))
    (sSeq (sAsgF 23 (mZ (m2 modD (mH (mL intD (aCons (mH (m2 mulD (mH (mN (mVar 13))) (mH (mN (mVar 19))))) aNil))) (mH (mN (mVar 21))))))
    (sSeq (sAsgF 24 (mZ (mComp (mRng1 (aCons (mVar 13) aNil)) (tgN 22) [22] m_law_d46cc9_c2 m_law_d46cc9_e2)))
    (sSeq (sIf (mNot (mTru (mH (mCall S_law_like (aCons (aD (mZ (mCall S_first_in (aCons (aD (mVar 19)) (aCons (aD (mVar 21)) (aCons (aD (mVar 23)) (aCons (aD (mVar 23)) aNil))))))) (aCons (aD (mZ (mIf (mBool (m2 neD (mH (mN (mVar 24))) (mH (mLst aNil)))) (m2 ixD (mH (mN (mVar 24))) (mH (mN (mC (.int 0))))) (mN (mVar 13))))) aNil)))))) (sRet (mN (mC (.bool false)))) sNext)
    (sSeq (sAsgF 25 (mZ (m2 addD (mH (mN (mC (.int 1)))) (mH (mCall S_law_draw (aCons (aS 1) (aCons (aD (mC (.int 40))) aNil)))))))
    (sSeq (sAsgF 19 (mZ (m2 addD (mH (mN (mC (.int 1)))) (mH (mCall S_law_draw (aCons (aS 1) (aCons (aD (mVar 16)) aNil)))))))
    (sSeq (sAsgF 26 (mZ (mSortSet (mZ (mComp (mRng1 (aCons (mVar 16) aNil)) (tgN 22) [22] mYes m_law_d46cc9_e3)))))
    (sSeq (sAsgF 27 (mZ (mL lenD (aCons (mH (mN (mVar 26))) aNil))))
    (sSeq (sAsgF 25 (mZ (mL minD (aCons (mH (mN (mVar 25))) (aCons (mH (mN (mVar 27))) aNil)))))
    (sSeq (sIf (mNot (mTru (mH (mCall S_law_like (aCons (aD (mZ (mCall S_gaps (aCons (aD (mVar 19)) (aCons (aD (mVar 16)) (aCons (aD (mVar 25)) aNil)))))) (aCons (aD (mZ (mCall S_law_gaps (aCons (aD (mVar 19)) (aCons (aD (mVar 16)) (aCons (aD (mVar 25)) aNil)))))) aNil)))))) (sRet (mN (mC (.bool false)))) sNext)
    (sSeq (sAsgF 19 (mZ (m2 addD (mH (m2 mulD (mH (m2 fdivD (mH (mN (mVar 21))) (mH (mN (mC (.int 5)))))) (mH (mN (mC (.int 2)))))) (mH (mN (mC (.int 1)))))))
    (sSeq (sIf (mBool (m2 gtD (mH (mCall S_law_gcd (aCons (aD (mVar 19)) (aCons (aD (mVar 21)) aNil)))) (mH (mN (mC (.int 1)))))) (sRet (mN (mC (.bool true)))) sNext)
    (sSeq (sAsgF 25 (mZ (m2 addD (mH (mN (mC (.int 3000)))) (mH (mCall S_law_draw (aCons (aS 1) (aCons (aD (mC (.int 900))) aNil)))))))
    (sSeq (sAsgF 8 (mZ (mCall S_gaps (aCons (aD (mVar 19)) (aCons (aD (mVar 21)) (aCons (aD (mVar 25)) aNil))))))
    (sSeq (sIf (mOr (mNot (mTru (mH (mN (mIs "tuple" (mH (mN (mVar 8)))))))) (mOr (mNot (mBool (mChain leD leD (mH (mN (mC (.int 1)))) (mH (mL lenD (aCons (mH (mN (mVar 8))) aNil))) (mH (mN (mC (.int 3))))))) (mBool (m2 neD (mH (mL sumD (aCons (mH (mComp (mSeqA (mVar 8)) (tgT [(tgN 28), (tgN 29)]) [28, 29] mYes m_law_d46cc9_e4)) aNil))) (mH (mN (mVar 25))))))) (sRet (mN (mC (.bool false)))) sNext)
    (sRet (mAndV (m2 eqD (mH (mL sumD (aCons (mH (mComp (mSeqA (mVar 8)) (tgT [(tgN 28), (tgN 29)]) [28, 29] mYes m_law_d46cc9_e5)) aNil))) (mH (mN (mVar 21)))) (mOrV (m2 ltD (mH (mL lenD (aCons (mH (mN (mVar 8))) aNil))) (mH (mN (mC (.int 3))))) (m2 eqD (mH (m2 ixD (mH (m2 ixD (mH (mN (mVar 8))) (mH (mN (mC (.int 2)))))) (mH (mN (mC (.int 0)))))) (mH (m2 addD (mH (m2 ixD (mH (m2 ixD (mH (mN (mVar 8))) (mH (mN (mC (.int 0)))))) (mH (mN (mC (.int 0)))))) (mH (m2 ixD (mH (m2 ixD (mH (mN (mVar 8))) (mH (mN (mC (.int 1)))))) (mH (mN (mC (.int 0)))))))))))))))))))))))))))))))))))))))))))
end Md
namespace Lk23
open PySem L2 DL PyProof.Rows Md
def topS (i : Nat) : Stmt := PySem.Challenge.pw_truewheel_k23_words_drift.main.body.getD i (.Pass ⟨0, 0, 0, 0⟩)
structure Txt (mg : Str → Option Value) : Prop where
  b_abs : mg "abs" = none
  b_bool : mg "bool" = none
  b_enumerate : mg "enumerate" = none
  i_gcd : mg "gcd" = some (.builtin "math.gcd")
  b_int : mg "int" = none
  b_isinstance : mg "isinstance" = none
  b_len : mg "len" = none
  b_min : mg "min" = none
  b_range : mg "range" = none
  b_reversed : mg "reversed" = none
  b_set : mg "set" = none
  b_sorted : mg "sorted" = none
  b_str : mg "str" = none
  b_sum : mg "sum" = none
  b_tuple : mg "tuple" = none
/-! count -/
abbrev s_count : Stmt := topS 2
abbrev N_count : List Str := ["a", "b", "c", "n"]
abbrev p_count : List Str := ["a", "b", "c", "n"]
theorem sc_count : FnScope N_count p_count (defScope s_count) := ⟨rfl, rfl, rfl, by decide +kernel, rfl, by decide +kernel, by decide +kernel⟩
/-! first_off -/
abbrev s_first_off : Stmt := topS 3
abbrev N_first_off : List Str := ["a", "b", "c", "r", "e", "p", "q", "bound", "years", "errors", "n", "error", "rise"]
abbrev p_first_off : List Str := ["a", "b", "c", "r", "e"]
theorem sc_first_off : FnScope N_first_off p_first_off (defScope s_first_off) := ⟨rfl, rfl, rfl, by decide +kernel, rfl, by decide +kernel, by decide +kernel⟩
/-! first_in -/
abbrev s_first_in : Stmt := topS 4
abbrev N_first_in : List Str := ["a", "m", "low", "high", "asked", "n", "step", "whole", "least"]
abbrev p_first_in : List Str := ["a", "m", "low", "high"]
theorem sc_first_in : FnScope N_first_in p_first_in (defScope s_first_in) := ⟨rfl, rfl, rfl, by decide +kernel, rfl, by decide +kernel, by decide +kernel⟩
/-! gaps -/
abbrev s_gaps : Stmt := topS 5
abbrev N_gaps : List Str := ["a", "m", "n", "ahead", "behind", "u", "v", "often", "found", "size", "many"]
abbrev p_gaps : List Str := ["a", "m", "n"]
theorem sc_gaps : FnScope N_gaps p_gaps (defScope s_gaps) := ⟨rfl, rfl, rfl, by decide +kernel, rfl, by decide +kernel, by decide +kernel⟩
/-! _law_cell -/
abbrev s_law_cell : Stmt := topS 7
abbrev N_law_cell : List Str := ["script", "k"]
abbrev p_law_cell : List Str := ["script", "k"]
theorem sc_law_cell : FnScope N_law_cell p_law_cell (defScope s_law_cell) := ⟨rfl, rfl, rfl, by decide +kernel, rfl, by decide +kernel, by decide +kernel⟩
/-! _law_digits -/
abbrev s_law_digits : Stmt := topS 8
abbrev N_law_digits : List Str := ["script", "first", "last", "digits", "k", "cell", "turn", "seed"]
abbrev p_law_digits : List Str := ["script", "first", "last"]
theorem sc_law_digits : FnScope N_law_digits p_law_digits (defScope s_law_digits) := ⟨rfl, rfl, rfl, by decide +kernel, rfl, by decide +kernel, by decide +kernel⟩
/-! _law_draw -/
abbrev s_law_draw : Stmt := topS 9
abbrev N_law_draw : List Str := ["box", "many", "at"]
abbrev p_law_draw : List Str := ["box", "many"]
theorem sc_law_draw : FnScope N_law_draw p_law_draw (defScope s_law_draw) := ⟨rfl, rfl, rfl, by decide +kernel, rfl, by decide +kernel, by decide +kernel⟩
/-! _law_pick -/
abbrev s_law_pick : Stmt := topS 10
abbrev N_law_pick : List Str := ["box", "things"]
abbrev p_law_pick : List Str := ["box", "things"]
theorem sc_law_pick : FnScope N_law_pick p_law_pick (defScope s_law_pick) := ⟨rfl, rfl, rfl, by decide +kernel, rfl, by decide +kernel, by decide +kernel⟩
/-! _law_like -/
abbrev s_law_like : Stmt := topS 11
abbrev N_law_like : List Str := ["told", "due", "k"]
abbrev p_law_like : List Str := ["told", "due"]
theorem sc_law_like : FnScope N_law_like p_law_like (defScope s_law_like) := ⟨rfl, rfl, rfl, by decide +kernel, rfl, by decide +kernel, by decide +kernel⟩
/-! _law_number -/
abbrev s_law_number : Stmt := topS 12
abbrev N_law_number : List Str := ["thing", "low", "high"]
abbrev p_law_number : List Str := ["thing", "low", "high"]
theorem sc_law_number : FnScope N_law_number p_law_number (defScope s_law_number) := ⟨rfl, rfl, rfl, by decide +kernel, rfl, by decide +kernel, by decide +kernel⟩
/-! _law_gcd -/
abbrev s_law_gcd : Stmt := topS 13
abbrev N_law_gcd : List Str := ["one", "other", "turn"]
abbrev p_law_gcd : List Str := ["one", "other"]
theorem sc_law_gcd : FnScope N_law_gcd p_law_gcd (defScope s_law_gcd) := ⟨rfl, rfl, rfl, by decide +kernel, rfl, by decide +kernel, by decide +kernel⟩
/-! _law_ratio -/
abbrev s_law_ratio : Stmt := topS 14
abbrev N_law_ratio : List Str := ["a", "b", "step"]
abbrev p_law_ratio : List Str := ["a", "b"]
theorem sc_law_ratio : FnScope N_law_ratio p_law_ratio (defScope s_law_ratio) := ⟨rfl, rfl, rfl, by decide +kernel, rfl, by decide +kernel, by decide +kernel⟩
/-! _law_plus -/
abbrev s_law_plus : Stmt := topS 15
abbrev N_law_plus : List Str := ["one", "other"]
abbrev p_law_plus : List Str := ["one", "other"]
theorem sc_law_plus : FnScope N_law_plus p_law_plus (defScope s_law_plus) := ⟨rfl, rfl, rfl, by decide +kernel, rfl, by decide +kernel, by decide +kernel⟩
/-! _law_minus -/
abbrev s_law_minus : Stmt := topS 16
abbrev N_law_minus : List Str := ["one", "other"]
abbrev p_law_minus : List Str := ["one", "other"]
theorem sc_law_minus : FnScope N_law_minus p_law_minus (defScope s_law_minus) := ⟨rfl, rfl, rfl, by decide +kernel, rfl, by decide +kernel, by decide +kernel⟩
/-! _law_product -/
abbrev s_law_product : Stmt := topS 17
abbrev N_law_product : List Str := ["one", "other"]
abbrev p_law_product : List Str := ["one", "other"]
theorem sc_law_product : FnScope N_law_product p_law_product (defScope s_law_product) := ⟨rfl, rfl, rfl, by decide +kernel, rfl, by decide +kernel, by decide +kernel⟩
/-! _law_less -/
abbrev s_law_less : Stmt := topS 18
abbrev N_law_less : List Str := ["one", "other"]
abbrev p_law_less : List Str := ["one", "other"]
theorem sc_law_less : FnScope N_law_less p_law_less (defScope s_law_less) := ⟨rfl, rfl, rfl, by decide +kernel, rfl, by decide +kernel, by decide +kernel⟩
/-! _law_off -/
abbrev s_law_off : Stmt := topS 19
abbrev N_law_off : List Str := ["a", "b", "c", "r", "e", "limit", "n", "gap"]
abbrev p_law_off : List Str := ["a", "b", "c", "r", "e", "limit"]
theorem sc_law_off : FnScope N_law_off p_law_off (defScope s_law_off) := ⟨rfl, rfl, rfl, by decide +kernel, rfl, by decide +kernel, by decide +kernel⟩
/-! _law_gaps -/
abbrev s_law_gaps : Stmt := topS 20
abbrev N_law_gaps : List Str := ["a", "m", "n", "rests", "sizes", "k", "size", "one"]
abbrev p_law_gaps : List Str := ["a", "m", "n"]
theorem sc_law_gaps : FnScope N_law_gaps p_law_gaps (defScope s_law_gaps) := ⟨rfl, rfl, rfl, by decide +kernel, rfl, by decide +kernel, by decide +kernel⟩
/-! law -/
abbrev s_law : Stmt := topS 21
abbrev N_law : List Str := ["script", "box", "b", "a", "c", "turn", "e", "r", "told", "due", "sky", "bound", "late", "n", "is_due", "gap", "m", "low", "high", "step", "found", "great", "k", "rest", "early", "many", "every", "unlike", "size", "number"]
abbrev p_law : List Str := ["script"]
theorem sc_law : FnScope N_law p_law (defScope s_law) := ⟨rfl, rfl, rfl, by decide +kernel, rfl, by decide +kernel, by decide +kernel⟩
section
variable {P : Program} {w : World} {K : PySem.W.Frag} {mg : Str → Option Value} {base : Heap}
theorem der_count {f : Addr} {fd : FuncData} (A : At1 K mg "count" s_count p_count f fd) (T : Txt mg) {k : Nat} {S : Sf} (hS : ∀ cs c outs, S cs = .ok (c, outs) → cs.length = 4 ∧ runD 4 m_count cs = .ok (c, outs)) : DFn P w K mg base "count" (k + 1) S :=
  dfn_ok A sc_count (by decide) m_count (fun cdv A outer s H E hr =>
    (pds_one (pds_ret (pn_op op_fdivA snd_fdiv (ph_n (pn_op op_addA snd_add (ph_n (pn_op op_mulA snd_mul (ph_f (pf_var (pv 0))) (ph_f (pf_var (pv 3))))) (ph_f (pf_var (pv 2))))) (ph_f (pf_var (pv 1))))))) hS
theorem der_first_off {f : Addr} {fd : FuncData} (A : At1 K mg "first_off" s_first_off p_first_off f fd) (T : Txt mg) {S_count : Sf} {j_count : Nat} (c_count : DFn P w K mg base "count" j_count S_count) {k : Nat} (h_count : j_count ≤ k) {S : Sf} (hS : ∀ cs c outs, S cs = .ok (c, outs) → cs.length = 5 ∧ runD 13 (m_first_off S_count) cs = .ok (c, outs)) : DFn P w K mg base "first_off" (k + 1) S :=
  dfn_ok A sc_first_off (by decide) (m_first_off S_count) (fun cdv A outer s H E hr =>
    (pds_cons (pds_asg (pf_var (pv 3)) (pgd_tup rfl (pgds_cons (pgd_name (i := 5) sc_first_off.nd rfl (.inr rfl)) (pgds_cons (pgd_name (i := 6) sc_first_off.nd rfl (.inr rfl)) pgds_nil)) rfl))
    (pds_cons (pds_setF (i := 7) sc_first_off.nd rfl (.inr rfl) (pf_n (pn_op op_fdivA snd_fdiv (ph_n (pn_op op_mulA snd_mul (ph_n (pn_ix ix_seq snd_ix (ph_f (pf_var (pv 4))) (ph_n (pn_f pf_int)) (fun _ _ => rfl))) (ph_f (pf_var (pv 6))))) (ph_n (pn_ix ix_seq snd_ix (ph_f (pf_var (pv 4))) (ph_n (pn_f pf_int)) (fun _ _ => rfl))))))
    (pds_cons (pds_setF (i := 8) sc_first_off.nd rfl (.inr rfl) (pf_n (pn_op op_fdivA snd_fdiv (ph_f (pf_var (pv 1))) (ph_n (pn_fun cr_gcd snd_gcd (by rfl) T.i_gcd (pah_cons (ph_f (pf_var (pv 0))) (pah_cons (ph_f (pf_var (pv 1))) pah_nil)))))))
    (pds_cons (pds_setLcF (i := 9) (own := [("n", 10)]) rfl sc_first_off.nd rfl rfl (sw_true rfl rfl rfl (by decide +kernel)) (pid_rng1 (by rfl) T.b_range (pad_cons (pf_var (pv 8)) pad_nil)) (blkOk_by (N := N_first_off) (sc := defScope s_first_off) (by decide +kernel)) (tgOk_n 10) (by decide) (fun _ _ _ _ _ => (pgd_name (i := 10) sc_first_off.nd rfl (.inl rfl))) (fun _ _ _ _ _ => ptsd_nil) (fun _ _ _ _ _ => (pf_n (pn_op op_sub snd_sub (ph_n (pn_op op_mulA snd_mul (ph_f (pf_var (pv 10))) (ph_f (pf_var (pv 5))))) (ph_n (pn_op op_mulA snd_mul (ph_f (pf_var (pv 6))) (ph_n (pn_cd c_count hr h_count (by rfl) (pag_cons (pf_var (pv 0)) (pag_cons (pf_var (pv 1)) (pag_cons (pf_var (pv 2)) (pag_cons (pf_var (pv 10)) pag_nil))))))))))))
    (pds_cons (pds_for PassesOwn.never rfl (pid_enum (by rfl) T.b_enumerate (pad_cons (pf_var (pv 9)) pad_nil)) (pgd_tup rfl (pgds_cons (pgd_name (i := 10) sc_first_off.nd rfl (.inl rfl)) (pgds_cons (pgd_name (i := 11) sc_first_off.nd rfl (.inl rfl)) pgds_nil)) rfl) (pds_one (pds_if (ptd_cmp op_gt snd_gt (nomark _) (ph_n (pn_bi call_abs snd_abs (by rfl) T.b_abs bt_abs (pah_cons (ph_f (pf_var (pv 11))) pah_nil))) (ph_f (pf_var (pv 7)))) (pds_one (pds_ret (pn_f (pf_var (pv 10))))) pds_nil)))
    (pds_cons (pds_setF (i := 12) sc_first_off.nd rfl (.inr rfl) (pf_n (pn_op op_sub snd_sub (ph_n (pn_op op_mulA snd_mul (ph_f (pf_var (pv 8))) (ph_f (pf_var (pv 5))))) (ph_n (pn_op op_mulA snd_mul (ph_f (pf_var (pv 6))) (ph_n (pn_op op_fdivA snd_fdiv (ph_n (pn_op op_mulA snd_mul (ph_f (pf_var (pv 0))) (ph_f (pf_var (pv 8))))) (ph_f (pf_var (pv 1))))))))))
    (pds_cons (pds_if (ptd_cmp (op_eqA (hu64 hr)) snd_eq (nomark _) (ph_f (pf_var (pv 12))) (ph_n (pn_f pf_int))) (pds_one (pds_ret (pn_f pf_non))) pds_nil)
    (pds_cons (pds_if (ptd_cmp op_ltA snd_lt (nomark _) (ph_f (pf_var (pv 12))) (ph_n (pn_f pf_int))) (pds_cons (pds_setF (i := 12) sc_first_off.nd rfl (.inr rfl) (pf_n (pn_un un_neg snd_neg (ph_f (pf_var (pv 12))))))
    (pds_one (pds_setLcF (i := 9) (own := [("error", 11)]) rfl sc_first_off.nd rfl rfl (sw_true rfl rfl rfl (by decide +kernel)) (pid_seq (pf_var (pv 9))) (blkOk_by (N := N_first_off) (sc := defScope s_first_off) (by decide +kernel)) (tgOk_n 11) (by decide) (fun _ _ _ _ _ => (pgd_name (i := 11) sc_first_off.nd rfl (.inl rfl))) (fun _ _ _ _ _ => ptsd_nil) (fun _ _ _ _ _ => (pf_n (pn_un un_neg snd_neg (ph_f (pf_var (pv 11))))))))) pds_nil)
    (pds_one (pds_ret (pn_bi (call_minA rfl) snd_min (by rfl) T.b_min bt_min (pah_cons (ph_n (pn_lc (own := [("n", 10), ("error", 11)]) rfl sc_first_off.nd (pid_enum (by rfl) T.b_enumerate (pad_cons (pf_var (pv 9)) pad_nil)) (blkOk_by (N := N_first_off) (sc := defScope s_first_off) (by decide +kernel)) (tgOk_t (.cons (tgOk_n 10) (.cons (tgOk_n 11) .nil))) (by decide) (fun _ _ _ _ _ => (pgd_tup rfl (pgds_cons (pgd_name (i := 10) sc_first_off.nd rfl (.inl rfl)) (pgds_cons (pgd_name (i := 11) sc_first_off.nd rfl (.inl rfl)) pgds_nil)) rfl)) (fun _ _ _ _ _ => ptsd_nil) (fun _ _ _ _ _ => (pf_n (pn_op op_addA snd_add (ph_n (pn_op op_mulA snd_mul (ph_n (pn_op op_addA snd_add (ph_n (pn_op op_fdivA snd_fdiv (ph_n (pn_op op_sub snd_sub (ph_f (pf_var (pv 7))) (ph_f (pf_var (pv 11))))) (ph_f (pf_var (pv 12))))) (ph_n (pn_f pf_int)))) (ph_f (pf_var (pv 8))))) (ph_f (pf_var (pv 10)))))))) pah_nil))))))))))))) hS
theorem der_first_in {f : Addr} {fd : FuncData} (A : At1 K mg "first_in" s_first_in p_first_in f fd) (T : Txt mg) {k : Nat} {S : Sf} (hS : ∀ cs c outs, S cs = .ok (c, outs) → cs.length = 4 ∧ runD 9 m_first_in cs = .ok (c, outs)) : DFn P w K mg base "first_in" (k + 1) S :=
  dfn_ok A sc_first_in (by decide) m_first_in (fun cdv A outer s H E hr =>
    (pds_cons (pds_setF (i := 0) sc_first_in.nd rfl (.inl rfl) (pf_n (pn_op op_modA snd_mod (ph_f (pf_var (pv 0))) (ph_f (pf_var (pv 1))))))
    (pds_cons (pds_set (i := 4) sc_first_in.nd rfl (.inl rfl) (pn_lst pad_nil))
    (pds_cons (pds_setF (i := 5) sc_first_in.nd rfl (.inl rfl) pf_int)
    (pds_cons (pds_while PassesOwn.never (ptd_cmp op_gt snd_gt (nomark _) (ph_f (pf_var (pv 2))) (ph_n (pn_f pf_int))) (pds_cons (pds_if (ptd_cmp (op_eqA (hu64 hr)) snd_eq (nomark _) (ph_f (pf_var (pv 0))) (ph_n (pn_f pf_int))) (pds_one (pds_ret (pn_f pf_non))) pds_nil)
    (pds_cons (pds_if (ptd_cmp op_gt snd_gt (nomark _) (ph_n (pn_op op_mulA snd_mul (ph_n (pn_f pf_int)) (ph_f (pf_var (pv 0))))) (ph_f (pf_var (pv 1)))) (pds_one (pds_par3 (i := 0) (j := 2) (l := 3) rfl sc_first_in.nd rfl rfl rfl (by decide) (by decide) (by decide) rfl rfl rfl (pad_cons (pf_n (pn_op op_sub snd_sub (ph_f (pf_var (pv 1))) (ph_f (pf_var (pv 0))))) (pad_cons (pf_n (pn_op op_sub snd_sub (ph_f (pf_var (pv 1))) (ph_f (pf_var (pv 3))))) (pad_cons (pf_n (pn_op op_sub snd_sub (ph_f (pf_var (pv 1))) (ph_f (pf_var (pv 2))))) pad_nil))) (by rfl))) pds_nil)
    (pds_cons (pds_setF (i := 5) sc_first_in.nd rfl (.inl rfl) (pf_n (pn_un un_neg snd_neg (ph_n (pn_op op_fdivA snd_fdiv (ph_n (pn_un un_neg snd_neg (ph_f (pf_var (pv 2))))) (ph_f (pf_var (pv 0))))))))
    (pds_cons (pds_if (ptd_cmp op_le snd_le (nomark _) (ph_n (pn_op op_mulA snd_mul (ph_f (pf_var (pv 5))) (ph_f (pf_var (pv 0))))) (ph_f (pf_var (pv 3)))) (pds_one pds_break) pds_nil)
    (pds_cons (pds_app (i := 4) (pv 4) (pf_tup (pad_cons (pf_var (pv 0)) (pad_cons (pf_var (pv 1)) (pad_cons (pf_var (pv 2)) pad_nil)))))
    (pds_one (pds_asg (pf_tup (pad_cons (pf_n (pn_op op_modA snd_mod (ph_n (pn_un un_neg snd_neg (ph_f (pf_var (pv 1))))) (ph_f (pf_var (pv 0))))) (pad_cons (pf_var (pv 0)) (pad_cons (pf_n (pn_op op_modA snd_mod (ph_f (pf_var (pv 2))) (ph_f (pf_var (pv 0))))) (pad_cons (pf_n (pn_op op_modA snd_mod (ph_f (pf_var (pv 3))) (ph_f (pf_var (pv 0))))) pad_nil))))) (pgd_tup rfl (pgds_cons (pgd_name (i := 0) sc_first_in.nd rfl (.inl rfl)) (pgds_cons (pgd_name (i := 1) sc_first_in.nd rfl (.inl rfl)) (pgds_cons (pgd_name (i := 2) sc_first_in.nd rfl (.inl rfl)) (pgds_cons (pgd_name (i := 3) sc_first_in.nd rfl (.inl rfl)) pgds_nil)))) rfl)))))))))
    (pds_frz 4 (pds_cons (pds_for PassesOwn.never rfl (pid_rev (by rfl) T.b_reversed (pf_var (pv 4))) (pgd_tup rfl (pgds_cons (pgd_name (i := 6) sc_first_in.nd rfl (.inl rfl)) (pgds_cons (pgd_name (i := 7) sc_first_in.nd rfl (.inl rfl)) (pgds_cons (pgd_name (i := 8) sc_first_in.nd rfl (.inl rfl)) pgds_nil))) rfl) (pds_one (pds_setF (i := 5) sc_first_in.nd rfl (.inl rfl) (pf_n (pn_un un_neg snd_neg (ph_n (pn_op op_fdivA snd_fdiv (ph_n (pn_un un_neg snd_neg (ph_n (pn_op op_addA snd_add (ph_f (pf_var (pv 8))) (ph_n (pn_op op_mulA snd_mul (ph_f (pf_var (pv 7))) (ph_f (pf_var (pv 5))))))))) (ph_f (pf_var (pv 6))))))))))
    (pds_one (pds_ret (pn_f (pf_var (pv 5)))))))))))) hS
theorem der_gaps {f : Addr} {fd : FuncData} (A : At1 K mg "gaps" s_gaps p_gaps f fd) (T : Txt mg) {k : Nat} {S : Sf} (hS : ∀ cs c outs, S cs = .ok (c, outs) → cs.length = 3 ∧ runD 11 m_gaps cs = .ok (c, outs)) : DFn P w K mg base "gaps" (k + 1) S :=
  dfn_ok A sc_gaps (by decide) m_gaps (fun cdv A outer s H E hr =>
    (pds_cons (pds_if (ptd_cmp (op_eqA (hu64 hr)) snd_eq (nomark _) (ph_f (pf_var (pv 2))) (ph_n (pn_f pf_int))) (pds_one (pds_ret (pn_f (pf_tup (pad_cons (pf_tup (pad_cons (pf_var (pv 1)) (pad_cons pf_int pad_nil))) pad_nil))))) pds_nil)
    (pds_cons (pds_asg (pf_tup (pad_cons (pf_n (pn_op op_modA snd_mod (ph_f (pf_var (pv 0))) (ph_f (pf_var (pv 1))))) (pad_cons (pf_n (pn_op op_sub snd_sub (ph_f (pf_var (pv 1))) (ph_n (pn_op op_modA snd_mod (ph_f (pf_var (pv 0))) (ph_f (pf_var (pv 1))))))) (pad_cons pf_int (pad_cons pf_int pad_nil))))) (pgd_tup rfl (pgds_cons (pgd_name (i := 3) sc_gaps.nd rfl (.inl rfl)) (pgds_cons (pgd_name (i := 4) sc_gaps.nd rfl (.inl rfl)) (pgds_cons (pgd_name (i := 5) sc_gaps.nd rfl (.inl rfl)) (pgds_cons (pgd_name (i := 6) sc_gaps.nd rfl (.inl rfl)) pgds_nil)))) rfl))
    (pds_cons (pds_while PassesOwn.never (ptd_cmp op_ltA snd_lt (nomark _) (ph_n (pn_op op_addA snd_add (ph_f (pf_var (pv 5))) (ph_f (pf_var (pv 6))))) (ph_f (pf_var (pv 2)))) (pds_one (pds_if (ptd_cmp op_gt snd_gt (nomark _) (ph_f (pf_var (pv 3))) (ph_f (pf_var (pv 4)))) (pds_cons (pds_setF (i := 7) sc_gaps.nd rfl (.inl rfl) (pf_n (pn_bi (call_minA rfl) snd_min (by rfl) T.b_min bt_min (pah_cons (ph_n (pn_op op_fdivA snd_fdiv (ph_n (pn_op op_sub snd_sub (ph_n (pn_op op_sub snd_sub (ph_f (pf_var (pv 2))) (ph_n (pn_f pf_int)))) (ph_f (pf_var (pv 5))))) (ph_f (pf_var (pv 6))))) (pah_cons (ph_n (pn_op op_fdivA snd_fdiv (ph_n (pn_op op_sub snd_sub (ph_f (pf_var (pv 3))) (ph_n (pn_f pf_int)))) (ph_f (pf_var (pv 4))))) pah_nil)))))
    (pds_one (pds_parN (i := 3) (j := 5) rfl sc_gaps.nd rfl rfl (by decide) rfl rfl (pn_f (pf_n (pn_op op_sub snd_sub (ph_f (pf_var (pv 3))) (ph_n (pn_op op_mulA snd_mul (ph_f (pf_var (pv 7))) (ph_f (pf_var (pv 4)))))))) (pn_f (pf_n (pn_op op_addA snd_add (ph_f (pf_var (pv 5))) (ph_n (pn_op op_mulA snd_mul (ph_f (pf_var (pv 7))) (ph_f (pf_var (pv 6)))))))) (by rfl)))) (pds_cons (pds_setF (i := 7) sc_gaps.nd rfl (.inl rfl) (pf_n (pn_bi (call_minA rfl) snd_min (by rfl) T.b_min bt_min (pah_cons (ph_n (pn_op op_fdivA snd_fdiv (ph_n (pn_op op_sub snd_sub (ph_n (pn_op op_sub snd_sub (ph_f (pf_var (pv 2))) (ph_n (pn_f pf_int)))) (ph_f (pf_var (pv 6))))) (ph_f (pf_var (pv 5))))) (pah_cons (ph_n (pn_op op_fdivA snd_fdiv (ph_n (pn_op op_sub snd_sub (ph_f (pf_var (pv 4))) (ph_n (pn_f pf_int)))) (ph_f (pf_var (pv 3))))) pah_nil)))))
    (pds_one (pds_parN (i := 4) (j := 6) rfl sc_gaps.nd rfl rfl (by decide) rfl rfl (pn_f (pf_n (pn_op op_sub snd_sub (ph_f (pf_var (pv 4))) (ph_n (pn_op op_mulA snd_mul (ph_f (pf_var (pv 7))) (ph_f (pf_var (pv 3)))))))) (pn_f (pf_n (pn_op op_addA snd_add (ph_f (pf_var (pv 6))) (ph_n (pn_op op_mulA snd_mul (ph_f (pf_var (pv 7))) (ph_f (pf_var (pv 5)))))))) (by rfl)))))))
    (pds_cons (pds_set (i := 8) sc_gaps.nd rfl (.inl rfl) pn_dnewK)
    (pds_cons (pds_for PassesOwn.never rfl (pid_seq (pf_tup (pad_cons (pf_tup (pad_cons (pf_var (pv 3)) (pad_cons (pf_n (pn_op op_sub snd_sub (ph_f (pf_var (pv 2))) (ph_f (pf_var (pv 5))))) pad_nil))) (pad_cons (pf_tup (pad_cons (pf_var (pv 4)) (pad_cons (pf_n (pn_op op_sub snd_sub (ph_f (pf_var (pv 2))) (ph_f (pf_var (pv 6))))) pad_nil))) (pad_cons (pf_tup (pad_cons (pf_n (pn_op op_addA snd_add (ph_f (pf_var (pv 3))) (ph_f (pf_var (pv 4))))) (pad_cons (pf_n (pn_op op_sub snd_sub (ph_n (pn_op op_addA snd_add (ph_f (pf_var (pv 5))) (ph_f (pf_var (pv 6))))) (ph_f (pf_var (pv 2))))) pad_nil))) pad_nil))))) (pgd_tup rfl (pgds_cons (pgd_name (i := 9) sc_gaps.nd rfl (.inl rfl)) (pgds_cons (pgd_name (i := 10) sc_gaps.nd rfl (.inl rfl)) pgds_nil)) rfl) (pds_one (pds_if (ptd_cmp op_gt snd_gt (nomark _) (ph_f (pf_var (pv 10))) (ph_n (pn_f pf_int))) (pds_one (pds_dput (i := 8) (hu1 hr) (pv 8) (pf_var (pv 9)) (pf_n (pn_op op_addA snd_add (ph_n (pn_f (pf_getO (hu1 hr) (ph_var (pv 8)) (pf_var (pv 9)) pf_int))) (ph_f (pf_var (pv 10))))))) pds_nil)))
    (pds_one (pds_ret (pn_ty call_tuple_of snd_tuple (by rfl) T.b_tuple bt_tuple (pah_cons (ph_n (pn_sortItems rfl (by rfl) T.b_sorted (ph_var (pv 8)))) pah_nil)))))))))) hS
theorem der_law_cell {f : Addr} {fd : FuncData} (A : At1 K mg "_law_cell" s_law_cell p_law_cell f fd) (T : Txt mg) {k : Nat} {S : Sf} (hS : ∀ cs c outs, S cs = .ok (c, outs) → cs.length = 2 ∧ runD 2 m_law_cell cs = .ok (c, outs)) : DFn P w K mg base "_law_cell" (k + 1) S :=
  dfn_ok A sc_law_cell (by decide) m_law_cell (fun cdv A outer s H E hr =>
    (pds_cons (pds_if (ptd_cmp op_ltA snd_lt (nomark _) (ph_f (pf_var (pv 1))) (ph_n (pn_bi call_lenA snd_len (by rfl) T.b_len bt_len (pah_cons (ph_f (pf_var (pv 0))) pah_nil)))) (pds_one (pds_ret (pn_ix ix_seq snd_ix (ph_f (pf_var (pv 0))) (ph_f (pf_var (pv 1))) (fun _ _ => rfl)))) pds_nil)
    (pds_one (pds_ret (pn_f pf_int))))) hS
theorem der_law_digits {f : Addr} {fd : FuncData} (A : At1 K mg "_law_digits" s_law_digits p_law_digits f fd) (T : Txt mg) {S_law_cell : Sf} {j_law_cell : Nat} (c_law_cell : DFn P w K mg base "_law_cell" j_law_cell S_law_cell) {k : Nat} (h_law_cell : j_law_cell ≤ k) {S : Sf} (hS : ∀ cs c outs, S cs = .ok (c, outs) → cs.length = 3 ∧ runD 8 (m_law_digits S_law_cell) cs = .ok (c, outs)) : DFn P w K mg base "_law_digits" (k + 1) S :=
  dfn_ok A sc_law_digits (by decide) (m_law_digits S_law_cell) (fun cdv A outer s H E hr =>
    (pds_cons (pds_set (i := 3) sc_law_digits.nd rfl (.inl rfl) (pn_lst pad_nil))
    (pds_cons (pds_for PassesOwn.never rfl (pid_rng2 (by rfl) T.b_range (pad_cons (pf_var (pv 1)) (pad_cons (pf_var (pv 2)) pad_nil))) (pgd_name (i := 4) sc_law_digits.nd rfl (.inl rfl)) (pds_cons (pds_setF (i := 5) sc_law_digits.nd rfl (.inl rfl) (pf_n (pn_cd c_law_cell hr h_law_cell (by rfl) (pag_cons (pf_var (pv 0)) (pag_cons (pf_var (pv 4)) pag_nil)))))
    (pds_cons (pds_if (ptd_cmp op_ltA snd_lt (nomark _) (ph_f (pf_var (pv 5))) (ph_n (pn_f pf_int))) (pds_one (pds_setF (i := 5) sc_law_digits.nd rfl (.inl rfl) (pf_n (pn_op op_sub snd_sub (ph_n (pn_f pf_int)) (ph_n (pn_op op_mulA snd_mul (ph_n (pn_f pf_int)) (ph_f (pf_var (pv 5))))))))) pds_nil)
    (pds_cons (pds_if (ptd_cmp op_gt snd_gt (nomark _) (ph_n (pn_bi call_lenA snd_len (by rfl) T.b_len bt_len (pah_cons (ph_var (pv 3)) pah_nil))) (ph_n (pn_f pf_int))) (pds_one pds_break) pds_nil)
    (pds_one (pds_if (ptd_cmp op_ge snd_ge (nomark _) (ph_f (pf_var (pv 5))) (ph_n (pn_op op_pow snd_pow (ph_n (pn_f pf_int)) (ph_n (pn_f pf_int))))) (pds_one (pds_for PassesOwn.never rfl (pid_rng1 (by rfl) T.b_range (pad_cons pf_int pad_nil)) (pgd_name (i := 6) sc_law_digits.nd rfl (.inl rfl)) (pds_one (pds_if (ptd_cmp op_gt snd_gt (nomark _) (ph_f (pf_var (pv 5))) (ph_n (pn_f pf_int))) (pds_cons (pds_app (i := 3) (pv 3) (pf_n (pn_op op_modA snd_mod (ph_n (pn_ty call_int1 snd_int (by rfl) T.b_int bt_int (pah_cons (ph_f (pf_var (pv 5))) pah_nil))) (ph_n (pn_f pf_int)))))
    (pds_one (pds_setF (i := 5) sc_law_digits.nd rfl (.inl rfl) (pf_n (pn_op op_fdivA snd_fdiv (ph_f (pf_var (pv 5))) (ph_n (pn_f pf_int))))))) pds_nil)))) (pds_cons (pds_setF (i := 7) sc_law_digits.nd rfl (.inl rfl) (pf_n (pn_op op_modA snd_mod (ph_n (pn_ty call_int1 snd_int (by rfl) T.b_int bt_int (pah_cons (ph_n (pn_op op_addA snd_add (ph_n (pn_op op_addA snd_add (ph_n (pn_op op_mulA snd_mul (ph_f (pf_var (pv 5))) (ph_n (pn_f pf_int)))) (ph_n (pn_op op_mulA snd_mul (ph_f (pf_var (pv 4))) (ph_n (pn_f pf_int)))))) (ph_n (pn_f pf_int)))) pah_nil))) (ph_n (pn_f pf_int)))))
    (pds_one (pds_for PassesOwn.never rfl (pid_rng1 (by rfl) T.b_range (pad_cons pf_int pad_nil)) (pgd_name (i := 6) sc_law_digits.nd rfl (.inl rfl)) (pds_cons (pds_setF (i := 7) sc_law_digits.nd rfl (.inl rfl) (pf_n (pn_op op_modA snd_mod (ph_n (pn_ty call_int1 snd_int (by rfl) T.b_int bt_int (pah_cons (ph_n (pn_op op_addA snd_add (ph_n (pn_op op_addA snd_add (ph_n (pn_op op_mulA snd_mul (ph_f (pf_var (pv 7))) (ph_n (pn_f pf_int)))) (ph_n (pn_op op_mulA snd_mul (ph_n (pn_f pf_int)) (ph_f (pf_var (pv 6))))))) (ph_n (pn_f pf_int)))) pah_nil))) (ph_n (pn_f pf_int)))))
    (pds_one (pds_app (i := 3) (pv 3) (pf_n (pn_op op_modA snd_mod (ph_n (pn_ty call_int1 snd_int (by rfl) T.b_int bt_int (pah_cons (ph_n (pn_op op_fdivA snd_fdiv (ph_f (pf_var (pv 7))) (ph_n (pn_f pf_int)))) pah_nil))) (ph_n (pn_f pf_int))))))))))))))))
    (pds_one (pds_retS 3 (pv 3)))))) hS
theorem der_law_draw {f : Addr} {fd : FuncData} (A : At1 K mg "_law_draw" s_law_draw p_law_draw f fd) (T : Txt mg) {k : Nat} {S : Sf} (hS : ∀ cs c outs, S cs = .ok (c, outs) → cs.length = 2 ∧ runD 3 m_law_draw cs = .ok (c, outs)) : DFn P w K mg base "_law_draw" (k + 1) S :=
  dfn_ok A sc_law_draw (by decide) m_law_draw (fun cdv A outer s H E hr =>
    (pds_cons (pds_setF (i := 2) sc_law_draw.nd rfl (.inl rfl) (pf_n (pn_ix ix_seq snd_ix (ph_var (pv 0)) (ph_n (pn_f pf_int)) (fun _ _ => rfl))))
    (pds_cons (pds_lput (i := 0) (pv 0) pf_int (pf_n (pn_op op_addA snd_add (ph_f (pf_var (pv 2))) (ph_n (pn_f pf_int)))))
    (pds_cons (pds_if (ptd_cmp op_ltA snd_lt (nomark _) (ph_f (pf_var (pv 2))) (ph_n (pn_bi call_lenA snd_len (by rfl) T.b_len bt_len (pah_cons (ph_n (pn_ix ix_seq snd_ix (ph_var (pv 0)) (ph_n (pn_f pf_int)) (fun _ _ => rfl))) pah_nil)))) (pds_one (pds_ret (pn_op op_modA snd_mod (ph_n (pn_ty call_int1 snd_int (by rfl) T.b_int bt_int (pah_cons (ph_n (pn_ix ix_seq snd_ix (ph_n (pn_ix ix_seq snd_ix (ph_var (pv 0)) (ph_n (pn_f pf_int)) (fun _ _ => rfl))) (ph_f (pf_var (pv 2))) (fun _ _ => rfl))) pah_nil))) (ph_f (pf_var (pv 1)))))) pds_nil)
    (pds_one (pds_ret (pn_op op_modA snd_mod (ph_n (pn_ty call_int1 snd_int (by rfl) T.b_int bt_int (pah_cons (ph_n (pn_op op_mulA snd_mul (ph_f (pf_var (pv 2))) (ph_n (pn_f pf_int)))) pah_nil))) (ph_f (pf_var (pv 1)))))))))) hS
theorem der_law_pick {f : Addr} {fd : FuncData} (A : At1 K mg "_law_pick" s_law_pick p_law_pick f fd) (T : Txt mg) {S_law_draw : Sf} {j_law_draw : Nat} (c_law_draw : DFn P w K mg base "_law_draw" j_law_draw S_law_draw) {k : Nat} (h_law_draw : j_law_draw ≤ k) {S : Sf} (hS : ∀ cs c outs, S cs = .ok (c, outs) → cs.length = 2 ∧ runD 2 (m_law_pick S_law_draw) cs = .ok (c, outs)) : DFn P w K mg base "_law_pick" (k + 1) S :=
  dfn_ok A sc_law_pick (by decide) (m_law_pick S_law_draw) (fun cdv A outer s H E hr =>
    (pds_one (pds_ret (pn_ix ix_seq snd_ix (ph_f (pf_var (pv 1))) (ph_n (pn_op op_modA snd_mod (ph_n (pn_ty call_int1 snd_int (by rfl) T.b_int bt_int (pah_cons (ph_n (pn_cd c_law_draw hr h_law_draw (by rfl) (pag_conS (pv 0) (pag_cons pf_int pag_nil)))) pah_nil))) (ph_n (pn_bi call_lenA snd_len (by rfl) T.b_len bt_len (pah_cons (ph_f (pf_var (pv 1))) pah_nil))))) (fun _ _ => rfl))))) hS
theorem der_law_like {f : Addr} {fd : FuncData} (A : At1 K mg "_law_like" s_law_like p_law_like f fd) (T : Txt mg) {S_law_like : Sf} {j_law_like : Nat} (c_law_like : DFn P w K mg base "_law_like" j_law_like S_law_like) {k : Nat} (h_law_like : j_law_like ≤ k) {S : Sf} (hS : ∀ cs c outs, S cs = .ok (c, outs) → cs.length = 2 ∧ runD 3 (m_law_like S_law_like) cs = .ok (c, outs)) : DFn P w K mg base "_law_like" (k + 1) S :=
  dfn_ok A sc_law_like (by decide) (m_law_like S_law_like) (fun cdv A outer s H E hr =>
    (pds_cons (pds_if (ptd_tru (ph_n (pn_f (pf_isi tyOk_tuple (by rfl) T.b_isinstance (ph_f (pf_var (pv 1))) (by rfl) T.b_tuple bt_tuple)))) (pds_cons (pds_if (ptd_w (pwd_or (ptd_not (ptd_tru (ph_n (pn_f (pf_isi tyOk_tuple (by rfl) T.b_isinstance (ph_f (pf_var (pv 0))) (by rfl) T.b_tuple bt_tuple))))) (pwd_or1 (ptd_cmp (op_neA (hu64 hr)) snd_ne (nomark _) (ph_n (pn_bi call_lenA snd_len (by rfl) T.b_len bt_len (pah_cons (ph_f (pf_var (pv 0))) pah_nil))) (ph_n (pn_bi call_lenA snd_len (by rfl) T.b_len bt_len (pah_cons (ph_f (pf_var (pv 1))) pah_nil))))))) (pds_one (pds_ret (pn_f pf_bl))) pds_nil)
    (pds_one (pds_ret (pn_cmp (op_eqA (hu64 hr)) snd_eq (nomark _) (ph_n (pn_lc (own := [("k", 2)]) rfl sc_law_like.nd (pid_rng1 (by rfl) T.b_range (pad_cons (pf_n (pn_bi call_lenA snd_len (by rfl) T.b_len bt_len (pah_cons (ph_f (pf_var (pv 1))) pah_nil))) pad_nil)) (blkOk_by (N := N_law_like) (sc := defScope s_law_like) (by decide +kernel)) (tgOk_n 2) (by decide) (fun _ _ _ _ _ => (pgd_name (i := 2) sc_law_like.nd rfl (.inl rfl))) (fun _ _ _ _ _ => (ptsd_one (ptd_not (ptd_tru (ph_n (pn_cd c_law_like hr h_law_like (by rfl) (pag_cons (pf_n (pn_ix ix_seq snd_ix (ph_f (pf_var (pv 0))) (ph_f (pf_var (pv 2))) (fun _ _ => rfl))) (pag_cons (pf_n (pn_ix ix_seq snd_ix (ph_f (pf_var (pv 1))) (ph_f (pf_var (pv 2))) (fun _ _ => rfl))) pag_nil)))))))) (fun _ _ _ _ _ => pf_int))) (ph_n (pn_lst pad_nil)))))) pds_nil)
    (pds_cons (pds_if (ptd_cmp op_isA snd_is (nomark _) (ph_f (pf_var (pv 1))) (ph_n (pn_f pf_non))) (pds_one (pds_ret (pn_cmp op_isA snd_is (nomark _) (ph_f (pf_var (pv 0))) (ph_n (pn_f pf_non))))) pds_nil)
    (pds_cons (pds_if (ptd_cmp op_isA snd_is (nomark _) (ph_f (pf_var (pv 1))) (ph_n (pn_f pf_bl))) (pds_one (pds_ret (pn_cmp op_isA snd_is (nomark _) (ph_f (pf_var (pv 0))) (ph_n (pn_f pf_bl))))) pds_nil)
    (pds_cons (pds_if (ptd_cmp op_isA snd_is (nomark _) (ph_f (pf_var (pv 1))) (ph_n (pn_f pf_bl))) (pds_one (pds_ret (pn_cmp op_isA snd_is (nomark _) (ph_f (pf_var (pv 0))) (ph_n (pn_f pf_bl))))) pds_nil)
    (pds_cons (pds_if (ptd_tru (ph_n (pn_f (pf_isi tyOk_str (by rfl) T.b_isinstance (ph_f (pf_var (pv 1))) (by rfl) T.b_str bt_str)))) (pds_one (pds_ret (pn_and (pn_f (pf_isi tyOk_str (by rfl) T.b_isinstance (ph_f (pf_var (pv 0))) (by rfl) T.b_str bt_str)) (pn_one (pn_cmp (op_eqA (hu64 hr)) snd_eq (nomark _) (ph_n (pn_join (ph_n (pn_f pf_str)) (ph_n (pn_lst (pad_cons (pf_var (pv 0)) pad_nil))))) (ph_f (pf_var (pv 1)))))))) pds_nil)
    (pds_one (pds_ret (pn_and (pn_f (pf_isi tyOk_int (by rfl) T.b_isinstance (ph_f (pf_var (pv 0))) (by rfl) T.b_int bt_int)) (pn_and (pn_f (pf_not (pn_f (pf_isi tyOk_bool (by rfl) T.b_isinstance (ph_f (pf_var (pv 0))) (by rfl) T.b_bool bt_bool)))) (pn_one (pn_cmp (op_eqA (hu64 hr)) snd_eq (nomark _) (ph_f (pf_var (pv 0))) (ph_f (pf_var (pv 1))))))))))))))) hS
theorem der_law_number {f : Addr} {fd : FuncData} (A : At1 K mg "_law_number" s_law_number p_law_number f fd) (T : Txt mg) {k : Nat} {S : Sf} (hS : ∀ cs c outs, S cs = .ok (c, outs) → cs.length = 3 ∧ runD 3 m_law_number cs = .ok (c, outs)) : DFn P w K mg base "_law_number" (k + 1) S :=
  dfn_ok A sc_law_number (by decide) m_law_number (fun cdv A outer s H E hr =>
    (pds_one (pds_ret (pn_and (pn_f (pf_isi tyOk_int (by rfl) T.b_isinstance (ph_f (pf_var (pv 0))) (by rfl) T.b_int bt_int)) (pn_and (pn_f (pf_not (pn_f (pf_isi tyOk_bool (by rfl) T.b_isinstance (ph_f (pf_var (pv 0))) (by rfl) T.b_bool bt_bool)))) (pn_one (pn_chain op_le snd_le op_le snd_le (ph_f (pf_var (pv 1))) (ph_f (pf_var (pv 0))) (ph_f (pf_var (pv 2)))))))))) hS
theorem der_law_gcd {f : Addr} {fd : FuncData} (A : At1 K mg "_law_gcd" s_law_gcd p_law_gcd f fd) (T : Txt mg) {k : Nat} {S : Sf} (hS : ∀ cs c outs, S cs = .ok (c, outs) → cs.length = 2 ∧ runD 3 m_law_gcd cs = .ok (c, outs)) : DFn P w K mg base "_law_gcd" (k + 1) S :=
  dfn_ok A sc_law_gcd (by decide) m_law_gcd (fun cdv A outer s H E hr =>
    (pds_cons (pds_for PassesOwn.never rfl (pid_rng1 (by rfl) T.b_range (pad_cons pf_int pad_nil)) (pgd_name (i := 2) sc_law_gcd.nd rfl (.inl rfl)) (pds_cons (pds_if (ptd_cmp (op_eqA (hu64 hr)) snd_eq (nomark _) (ph_f (pf_var (pv 1))) (ph_n (pn_f pf_int))) (pds_one pds_break) pds_nil)
    (pds_one (pds_parN (i := 0) (j := 1) rfl sc_law_gcd.nd rfl rfl (by decide) rfl rfl (pn_f (pf_var (pv 1))) (pn_f (pf_n (pn_op op_modA snd_mod (ph_n (pn_ty call_int1 snd_int (by rfl) T.b_int bt_int (pah_cons (ph_f (pf_var (pv 0))) pah_nil))) (ph_f (pf_var (pv 1)))))) (by rfl)))))
    (pds_one (pds_ret (pn_f (pf_var (pv 0))))))) hS
theorem der_law_ratio {f : Addr} {fd : FuncData} (A : At1 K mg "_law_ratio" s_law_ratio p_law_ratio f fd) (T : Txt mg) {S_law_gcd : Sf} {j_law_gcd : Nat} (c_law_gcd : DFn P w K mg base "_law_gcd" j_law_gcd S_law_gcd) {k : Nat} (h_law_gcd : j_law_gcd ≤ k) {S : Sf} (hS : ∀ cs c outs, S cs = .ok (c, outs) → cs.length = 2 ∧ runD 3 (m_law_ratio S_law_gcd) cs = .ok (c, outs)) : DFn P w K mg base "_law_ratio" (k + 1) S :=
  dfn_ok A sc_law_ratio (by decide) (m_law_ratio S_law_gcd) (fun cdv A outer s H E hr =>
    (pds_cons (pds_setF (i := 2) sc_law_ratio.nd rfl (.inl rfl) (pf_n (pn_cd c_law_gcd hr h_law_gcd (by rfl) (pag_cons (pf_n (pn_bi call_abs snd_abs (by rfl) T.b_abs bt_abs (pah_cons (ph_f (pf_var (pv 0))) pah_nil))) (pag_cons (pf_var (pv 1)) pag_nil)))))
    (pds_one (pds_ret (pn_f (pf_tup (pad_cons (pf_n (pn_op op_fdivA snd_fdiv (ph_f (pf_var (pv 0))) (ph_f (pf_var (pv 2))))) (pad_cons (pf_n (pn_op op_fdivA snd_fdiv (ph_f (pf_var (pv 1))) (ph_f (pf_var (pv 2))))) pad_nil)))))))) hS
theorem der_law_plus {f : Addr} {fd : FuncData} (A : At1 K mg "_law_plus" s_law_plus p_law_plus f fd) (T : Txt mg) {S_law_ratio : Sf} {j_law_ratio : Nat} (c_law_ratio : DFn P w K mg base "_law_ratio" j_law_ratio S_law_ratio) {k : Nat} (h_law_ratio : j_law_ratio ≤ k) {S : Sf} (hS : ∀ cs c outs, S cs = .ok (c, outs) → cs.length = 2 ∧ runD 2 (m_law_plus S_law_ratio) cs = .ok (c, outs)) : DFn P w K mg base "_law_plus" (k + 1) S :=
  dfn_ok A sc_law_plus (by decide) (m_law_plus S_law_ratio) (fun cdv A outer s H E hr =>
    (pds_one (pds_ret (pn_cd c_law_ratio hr h_law_ratio (by rfl) (pag_cons (pf_n (pn_op op_addA snd_add (ph_n (pn_op op_mulA snd_mul (ph_n (pn_ix ix_seq snd_ix (ph_f (pf_var (pv 0))) (ph_n (pn_f pf_int)) (fun _ _ => rfl))) (ph_n (pn_ix ix_seq snd_ix (ph_f (pf_var (pv 1))) (ph_n (pn_f pf_int)) (fun _ _ => rfl))))) (ph_n (pn_op op_mulA snd_mul (ph_n (pn_ix ix_seq snd_ix (ph_f (pf_var (pv 1))) (ph_n (pn_f pf_int)) (fun _ _ => rfl))) (ph_n (pn_ix ix_seq snd_ix (ph_f (pf_var (pv 0))) (ph_n (pn_f pf_int)) (fun _ _ => rfl))))))) (pag_cons (pf_n (pn_op op_mulA snd_mul (ph_n (pn_ix ix_seq snd_ix (ph_f (pf_var (pv 0))) (ph_n (pn_f pf_int)) (fun _ _ => rfl))) (ph_n (pn_ix ix_seq snd_ix (ph_f (pf_var (pv 1))) (ph_n (pn_f pf_int)) (fun _ _ => rfl))))) pag_nil)))))) hS
theorem der_law_minus {f : Addr} {fd : FuncData} (A : At1 K mg "_law_minus" s_law_minus p_law_minus f fd) (T : Txt mg) {S_law_ratio : Sf} {j_law_ratio : Nat} (c_law_ratio : DFn P w K mg base "_law_ratio" j_law_ratio S_law_ratio) {k : Nat} (h_law_ratio : j_law_ratio ≤ k) {S : Sf} (hS : ∀ cs c outs, S cs = .ok (c, outs) → cs.length = 2 ∧ runD 2 (m_law_minus S_law_ratio) cs = .ok (c, outs)) : DFn P w K mg base "_law_minus" (k + 1) S :=
  dfn_ok A sc_law_minus (by decide) (m_law_minus S_law_ratio) (fun cdv A outer s H E hr =>
    (pds_one (pds_ret (pn_cd c_law_ratio hr h_law_ratio (by rfl) (pag_cons (pf_n (pn_op op_sub snd_sub (ph_n (pn_op op_mulA snd_mul (ph_n (pn_ix ix_seq snd_ix (ph_f (pf_var (pv 0))) (ph_n (pn_f pf_int)) (fun _ _ => rfl))) (ph_n (pn_ix ix_seq snd_ix (ph_f (pf_var (pv 1))) (ph_n (pn_f pf_int)) (fun _ _ => rfl))))) (ph_n (pn_op op_mulA snd_mul (ph_n (pn_ix ix_seq snd_ix (ph_f (pf_var (pv 1))) (ph_n (pn_f pf_int)) (fun _ _ => rfl))) (ph_n (pn_ix ix_seq snd_ix (ph_f (pf_var (pv 0))) (ph_n (pn_f pf_int)) (fun _ _ => rfl))))))) (pag_cons (pf_n (pn_op op_mulA snd_mul (ph_n (pn_ix ix_seq snd_ix (ph_f (pf_var (pv 0))) (ph_n (pn_f pf_int)) (fun _ _ => rfl))) (ph_n (pn_ix ix_seq snd_ix (ph_f (pf_var (pv 1))) (ph_n (pn_f pf_int)) (fun _ _ => rfl))))) pag_nil)))))) hS
theorem der_law_product {f : Addr} {fd : FuncData} (A : At1 K mg "_law_product" s_law_product p_law_product f fd) (T : Txt mg) {S_law_ratio : Sf} {j_law_ratio : Nat} (c_law_ratio : DFn P w K mg base "_law_ratio" j_law_ratio S_law_ratio) {k : Nat} (h_law_ratio : j_law_ratio ≤ k) {S : Sf} (hS : ∀ cs c outs, S cs = .ok (c, outs) → cs.length = 2 ∧ runD 2 (m_law_product S_law_ratio) cs = .ok (c, outs)) : DFn P w K mg base "_law_product" (k + 1) S :=
  dfn_ok A sc_law_product (by decide) (m_law_product S_law_ratio) (fun cdv A outer s H E hr =>
    (pds_one (pds_ret (pn_cd c_law_ratio hr h_law_ratio (by rfl) (pag_cons (pf_n (pn_op op_mulA snd_mul (ph_n (pn_ix ix_seq snd_ix (ph_f (pf_var (pv 0))) (ph_n (pn_f pf_int)) (fun _ _ => rfl))) (ph_n (pn_ix ix_seq snd_ix (ph_f (pf_var (pv 1))) (ph_n (pn_f pf_int)) (fun _ _ => rfl))))) (pag_cons (pf_n (pn_op op_mulA snd_mul (ph_n (pn_ix ix_seq snd_ix (ph_f (pf_var (pv 0))) (ph_n (pn_f pf_int)) (fun _ _ => rfl))) (ph_n (pn_ix ix_seq snd_ix (ph_f (pf_var (pv 1))) (ph_n (pn_f pf_int)) (fun _ _ => rfl))))) pag_nil)))))) hS
theorem der_law_less {f : Addr} {fd : FuncData} (A : At1 K mg "_law_less" s_law_less p_law_less f fd) (T : Txt mg) {k : Nat} {S : Sf} (hS : ∀ cs c outs, S cs = .ok (c, outs) → cs.length = 2 ∧ runD 2 m_law_less cs = .ok (c, outs)) : DFn P w K mg base "_law_less" (k + 1) S :=
  dfn_ok A sc_law_less (by decide) m_law_less (fun cdv A outer s H E hr =>
    (pds_one (pds_ret (pn_cmp op_ltA snd_lt (nomark _) (ph_n (pn_op op_mulA snd_mul (ph_n (pn_ix ix_seq snd_ix (ph_f (pf_var (pv 0))) (ph_n (pn_f pf_int)) (fun _ _ => rfl))) (ph_n (pn_ix ix_seq snd_ix (ph_f (pf_var (pv 1))) (ph_n (pn_f pf_int)) (fun _ _ => rfl))))) (ph_n (pn_op op_mulA snd_mul (ph_n (pn_ix ix_seq snd_ix (ph_f (pf_var (pv 1))) (ph_n (pn_f pf_int)) (fun _ _ => rfl))) (ph_n (pn_ix ix_seq snd_ix (ph_f (pf_var (pv 0))) (ph_n (pn_f pf_int)) (fun _ _ => rfl))))))))) hS
theorem der_law_off {f : Addr} {fd : FuncData} (A : At1 K mg "_law_off" s_law_off p_law_off f fd) (T : Txt mg) {S_law_minus : Sf} {j_law_minus : Nat} (c_law_minus : DFn P w K mg base "_law_minus" j_law_minus S_law_minus) {S_law_product : Sf} {j_law_product : Nat} (c_law_product : DFn P w K mg base "_law_product" j_law_product S_law_product) {S_law_less : Sf} {j_law_less : Nat} (c_law_less : DFn P w K mg base "_law_less" j_law_less S_law_less) {k : Nat} (h_law_minus : j_law_minus ≤ k) (h_law_product : j_law_product ≤ k) (h_law_less : j_law_less ≤ k) {S : Sf} (hS : ∀ cs c outs, S cs = .ok (c, outs) → cs.length = 6 ∧ runD 8 (m_law_off S_law_minus S_law_product S_law_less) cs = .ok (c, outs)) : DFn P w K mg base "_law_off" (k + 1) S :=
  dfn_ok A sc_law_off (by decide) (m_law_off S_law_minus S_law_product S_law_less) (fun cdv A outer s H E hr =>
    (pds_cons (pds_for PassesOwn.never rfl (pid_rng1 (by rfl) T.b_range (pad_cons (pf_var (pv 5)) pad_nil)) (pgd_name (i := 6) sc_law_off.nd rfl (.inl rfl)) (pds_cons (pds_setF (i := 7) sc_law_off.nd rfl (.inl rfl) (pf_n (pn_cd c_law_minus hr h_law_minus (by rfl) (pag_cons (pf_n (pn_cd c_law_product hr h_law_product (by rfl) (pag_cons (pf_var (pv 3)) (pag_cons (pf_tup (pad_cons (pf_var (pv 6)) (pad_cons pf_int pad_nil))) pag_nil)))) (pag_cons (pf_tup (pad_cons (pf_n (pn_op op_fdivA snd_fdiv (ph_n (pn_op op_addA snd_add (ph_n (pn_op op_mulA snd_mul (ph_f (pf_var (pv 0))) (ph_f (pf_var (pv 6))))) (ph_f (pf_var (pv 2))))) (ph_f (pf_var (pv 1))))) (pad_cons pf_int pad_nil))) pag_nil)))))
    (pds_one (pds_if (ptd_tru (ph_n (pn_cd c_law_less hr h_law_less (by rfl) (pag_cons (pf_var (pv 4)) (pag_cons (pf_tup (pad_cons (pf_n (pn_bi call_abs snd_abs (by rfl) T.b_abs bt_abs (pah_cons (ph_n (pn_ix ix_seq snd_ix (ph_f (pf_var (pv 7))) (ph_n (pn_f pf_int)) (fun _ _ => rfl))) pah_nil))) (pad_cons (pf_n (pn_ix ix_seq snd_ix (ph_f (pf_var (pv 7))) (ph_n (pn_f pf_int)) (fun _ _ => rfl))) pad_nil))) pag_nil))))) (pds_one (pds_ret (pn_f (pf_var (pv 6))))) pds_nil))))
    (pds_one (pds_ret (pn_f pf_non))))) hS
theorem der_law_gaps {f : Addr} {fd : FuncData} (A : At1 K mg "_law_gaps" s_law_gaps p_law_gaps f fd) (T : Txt mg) {k : Nat} {S : Sf} (hS : ∀ cs c outs, S cs = .ok (c, outs) → cs.length = 3 ∧ runD 8 m_law_gaps cs = .ok (c, outs)) : DFn P w K mg base "_law_gaps" (k + 1) S :=
  dfn_ok A sc_law_gaps (by decide) m_law_gaps (fun cdv A outer s H E hr =>
    (pds_cons (pds_setF (i := 3) sc_law_gaps.nd rfl (.inr rfl) (pf_n (pn_sortSet rfl (by rfl) T.b_sorted (by rfl) T.b_set (pf_n (pn_lc (own := [("k", 5)]) rfl sc_law_gaps.nd (pid_rng1 (by rfl) T.b_range (pad_cons (pf_var (pv 2)) pad_nil)) (blkOk_by (N := N_law_gaps) (sc := defScope s_law_gaps) (by decide +kernel)) (tgOk_n 5) (by decide) (fun _ _ _ _ _ => (pgd_name (i := 5) sc_law_gaps.nd rfl (.inl rfl))) (fun _ _ _ _ _ => ptsd_nil) (fun _ _ _ _ _ => (pf_n (pn_op op_modA snd_mod (ph_n (pn_ty call_int1 snd_int (by rfl) T.b_int bt_int (pah_cons (ph_n (pn_op op_mulA snd_mul (ph_f (pf_var (pv 5))) (ph_f (pf_var (pv 0))))) pah_nil))) (ph_f (pf_var (pv 1)))))))))))
    (pds_cons (pds_setF (i := 4) sc_law_gaps.nd rfl (.inr rfl) (pf_n (pn_op op_addA snd_add (ph_n (pn_lc (own := [("k", 5)]) rfl sc_law_gaps.nd (pid_rng1 (by rfl) T.b_range (pad_cons (pf_n (pn_op op_sub snd_sub (ph_n (pn_bi call_lenA snd_len (by rfl) T.b_len bt_len (pah_cons (ph_f (pf_var (pv 3))) pah_nil))) (ph_n (pn_f pf_int)))) pad_nil)) (blkOk_by (N := N_law_gaps) (sc := defScope s_law_gaps) (by decide +kernel)) (tgOk_n 5) (by decide) (fun _ _ _ _ _ => (pgd_name (i := 5) sc_law_gaps.nd rfl (.inl rfl))) (fun _ _ _ _ _ => ptsd_nil) (fun _ _ _ _ _ => (pf_n (pn_op op_sub snd_sub (ph_n (pn_ix ix_seq snd_ix (ph_f (pf_var (pv 3))) (ph_n (pn_op op_addA snd_add (ph_f (pf_var (pv 5))) (ph_n (pn_f pf_int)))) (fun _ _ => rfl))) (ph_n (pn_ix ix_seq snd_ix (ph_f (pf_var (pv 3))) (ph_f (pf_var (pv 5))) (fun _ _ => rfl)))))))) (ph_n (pn_lst (pad_cons (pf_n (pn_op op_sub snd_sub (ph_n (pn_op op_addA snd_add (ph_n (pn_ix ix_seq snd_ix (ph_f (pf_var (pv 3))) (ph_n (pn_f pf_int)) (fun _ _ => rfl))) (ph_f (pf_var (pv 1))))) (ph_n (pn_ix ix_seq snd_ix (ph_f (pf_var (pv 3))) (ph_n (pn_un un_neg snd_neg (ph_n (pn_f pf_int)))) (fun _ _ => rfl))))) pad_nil))))))
    (pds_one (pds_ret (pn_ty call_tuple_of snd_tuple (by rfl) T.b_tuple bt_tuple (pah_cons (ph_n (pn_lc (own := [("size", 6)]) rfl sc_law_gaps.nd (pid_seq (pf_n (pn_sortSet rfl (by rfl) T.b_sorted (by rfl) T.b_set (pf_var (pv 4))))) (blkOk_by (N := N_law_gaps) (sc := defScope s_law_gaps) (by decide +kernel)) (tgOk_n 6) (by decide) (fun _ _ _ _ _ => (pgd_name (i := 6) sc_law_gaps.nd rfl (.inr rfl))) (fun _ _ _ _ _ => ptsd_nil) (fun _ _ _ _ _ => (pf_tup (pad_cons (pf_var (pv 6)) (pad_cons (pf_n (pn_bi call_lenA snd_len (by rfl) T.b_len bt_len (pah_cons (ph_n (pn_lc (own := [("one", 7)]) rfl sc_law_gaps.nd (pid_seq (pf_var (pv 4))) (blkOk_by (N := N_law_gaps) (by with_unfolding_all rfl)) (tgOk_n 7) (by decide) (fun _ _ _ _ _ => (pgd_name (i := 7) sc_law_gaps.nd rfl (.inl rfl))) (fun _ _ _ _ _ => (ptsd_one (ptd_cmp (op_eqA (hu64 hr)) snd_eq (nomark _) (ph_f (pf_var (pv 7))) (ph_f (pf_var (pv 6)))))) (fun _ _ _ _ _ => (pf_var (pv 7))))) pah_nil))) pad_nil)))))) pah_nil))))))) hS
theorem der_law {f : Addr} {fd : FuncData} (A : At1 K mg "law" s_law p_law f fd) (T : Txt mg) {S_law_digits : Sf} {j_law_digits : Nat} (c_law_digits : DFn P w K mg base "_law_digits" j_law_digits S_law_digits) {S_law_draw : Sf} {j_law_draw : Nat} (c_law_draw : DFn P w K mg base "_law_draw" j_law_draw S_law_draw) {S_law_ratio : Sf} {j_law_ratio : Nat} (c_law_ratio : DFn P w K mg base "_law_ratio" j_law_ratio S_law_ratio) {S_law_plus : Sf} {j_law_plus : Nat} (c_law_plus : DFn P w K mg base "_law_plus" j_law_plus S_law_plus) {S_law_pick : Sf} {j_law_pick : Nat} (c_law_pick : DFn P w K mg base "_law_pick" j_law_pick S_law_pick) {S_first_off : Sf} {j_first_off : Nat} (c_first_off : DFn P w K mg base "first_off" j_first_off S_first_off) {S_law_like : Sf} {j_law_like : Nat} (c_law_like : DFn P w K mg base "_law_like" j_law_like S_law_like) {S_law_off : Sf} {j_law_off : Nat} (c_law_off : DFn P w K mg base "_law_off" j_law_off S_law_off) {S_law_number : Sf} {j_law_number : Nat} (c_law_number : DFn P w K mg base "_law_number" j_law_number S_law_number) {S_law_minus : Sf} {j_law_minus : Nat} (c_law_minus : DFn P w K mg base "_law_minus" j_law_minus S_law_minus) {S_law_product : Sf} {j_law_product : Nat} (c_law_product : DFn P w K mg base "_law_product" j_law_product S_law_product) {S_law_less : Sf} {j_law_less : Nat} (c_law_less : DFn P w K mg base "_law_less" j_law_less S_law_less) {S_first_in : Sf} {j_first_in : Nat} (c_first_in : DFn P w K mg base "first_in" j_first_in S_first_in) {S_gaps : Sf} {j_gaps : Nat} (c_gaps : DFn P w K mg base "gaps" j_gaps S_gaps) {S_law_gaps : Sf} {j_law_gaps : Nat} (c_law_gaps : DFn P w K mg base "_law_gaps" j_law_gaps S_law_gaps) {S_law_gcd : Sf} {j_law_gcd : Nat} (c_law_gcd : DFn P w K mg base "_law_gcd" j_law_gcd S_law_gcd) {k : Nat} (h_law_digits : j_law_digits ≤ k) (h_law_draw : j_law_draw ≤ k) (h_law_ratio : j_law_ratio ≤ k) (h_law_plus : j_law_plus ≤ k) (h_law_pick : j_law_pick ≤ k) (h_first_off : j_first_off ≤ k) (h_law_like : j_law_like ≤ k) (h_law_off : j_law_off ≤ k) (h_law_number : j_law_number ≤ k) (h_law_minus : j_law_minus ≤ k) (h_law_product : j_law_product ≤ k) (h_law_less : j_law_less ≤ k) (h_first_in : j_first_in ≤ k) (h_gaps : j_gaps ≤ k) (h_law_gaps : j_law_gaps ≤ k) (h_law_gcd : j_law_gcd ≤ k) {S : Sf} (hS : ∀ cs c outs, S cs = .ok (c, outs) → cs.length = 1 ∧ runD 30 (m_law_d46cc9 S_law_digits S_law_draw S_law_ratio S_law_plus S_law_pick S_first_off S_law_like S_law_off S_law_number S_law_minus S_law_product S_law_less S_first_in S_gaps S_law_gaps S_law_gcd) cs = .ok (c, outs)) : FnD P w K mg base (k + 1) f fd p_law S :=
  DFn.law A sc_law (by decide) (m_law_d46cc9 S_law_digits S_law_draw S_law_ratio S_law_plus S_law_pick S_first_off S_law_like S_law_off S_law_number S_law_minus S_law_product S_law_less S_first_in S_gaps S_law_gaps S_law_gcd) (fun cdv A outer s H E hr =>
    (pds_cons (pds_set (i := 1) sc_law.nd rfl (.inl rfl) (pn_lst (pad_cons (pf_n (pn_cd c_law_digits hr h_law_digits (by rfl) (pag_cons (pf_var (pv 0)) (pag_cons pf_int (pag_cons pf_int pag_nil))))) (pad_cons pf_int pad_nil))))
    (pds_cons (pds_setF (i := 2) sc_law.nd rfl (.inl rfl) (pf_n (pn_op op_addA snd_add (ph_n (pn_f pf_int)) (ph_n (pn_cd c_law_draw hr h_law_draw (by rfl) (pag_conS (pv 1) (pag_cons pf_int pag_nil)))))))
    (pds_cons (pds_parN (i := 3) (j := 4) rfl sc_law.nd rfl rfl (by decide) rfl rfl (pn_f (pf_n (pn_cd c_law_draw hr h_law_draw (by rfl) (pag_conS (pv 1) (pag_cons (pf_n (pn_op op_addA snd_add (ph_f (pf_var (pv 2))) (ph_n (pn_f pf_int)))) pag_nil))))) (pn_f (pf_n (pn_cd c_law_draw hr h_law_draw (by rfl) (pag_conS (pv 1) (pag_cons (pf_var (pv 2)) pag_nil))))) (by rfl))
    (pds_cons (pds_for PassesOwn.never rfl (pid_rng1 (by rfl) T.b_range (pad_cons pf_int pad_nil)) (pgd_name (i := 5) sc_law.nd rfl (.inl rfl)) (pds_cons (pds_setF (i := 6) sc_law.nd rfl (.inl rfl) (pf_n (pn_cd c_law_ratio hr h_law_ratio (by rfl) (pag_cons (pf_n (pn_cd c_law_draw hr h_law_draw (by rfl) (pag_conS (pv 1) (pag_cons pf_int pag_nil)))) (pag_cons (pf_n (pn_op op_addA snd_add (ph_n (pn_f pf_int)) (ph_n (pn_cd c_law_draw hr h_law_draw (by rfl) (pag_conS (pv 1) (pag_cons pf_int pag_nil)))))) pag_nil)))))
    (pds_cons (pds_setF (i := 7) sc_law.nd rfl (.inl rfl) (pf_n (pn_cd c_law_plus hr h_law_plus (by rfl) (pag_cons (pf_n (pn_cd c_law_ratio hr h_law_ratio (by rfl) (pag_cons (pf_var (pv 3)) (pag_cons (pf_var (pv 2)) pag_nil)))) (pag_cons (pf_n (pn_cd c_law_pick hr h_law_pick (by rfl) (pag_conS (pv 1) (pag_cons (pf_n (pn_lst (pad_cons (pf_tup (pad_cons pf_int (pad_cons pf_int pad_nil))) (pad_cons (pf_n (pn_cd c_law_ratio hr h_law_ratio (by rfl) (pag_cons pf_int (pag_cons (pf_n (pn_op op_addA snd_add (ph_n (pn_f pf_int)) (ph_n (pn_cd c_law_draw hr h_law_draw (by rfl) (pag_conS (pv 1) (pag_cons pf_int pag_nil)))))) pag_nil)))) (pad_cons (pf_n (pn_cd c_law_ratio hr h_law_ratio (by rfl) (pag_cons (pf_n (pn_op op_sub snd_sub (ph_n (pn_f pf_int)) (ph_n (pn_f pf_int)))) (pag_cons (pf_n (pn_op op_addA snd_add (ph_n (pn_f pf_int)) (ph_n (pn_cd c_law_draw hr h_law_draw (by rfl) (pag_conS (pv 1) (pag_cons pf_int pag_nil)))))) pag_nil)))) pad_nil))))) pag_nil)))) pag_nil)))))
    (pds_cons (pds_setF (i := 8) sc_law.nd rfl (.inl rfl) (pf_n (pn_cd c_first_off hr h_first_off (by rfl) (pag_cons (pf_var (pv 3)) (pag_cons (pf_var (pv 2)) (pag_cons (pf_var (pv 4)) (pag_cons (pf_var (pv 7)) (pag_cons (pf_var (pv 6)) pag_nil))))))))
    (pds_one (pds_if (ptd_cmp (op_eqA (hu64 hr)) snd_eq (nomark _) (ph_f (pf_var (pv 7))) (ph_n (pn_cd c_law_ratio hr h_law_ratio (by rfl) (pag_cons (pf_var (pv 3)) (pag_cons (pf_var (pv 2)) pag_nil))))) (pds_one (pds_if (ptd_not (ptd_tru (ph_n (pn_cd c_law_like hr h_law_like (by rfl) (pag_cons (pf_var (pv 8)) (pag_cons (pf_n (pn_cd c_law_off hr h_law_off (by rfl) (pag_cons (pf_var (pv 3)) (pag_cons (pf_var (pv 2)) (pag_cons (pf_var (pv 4)) (pag_cons (pf_var (pv 7)) (pag_cons (pf_var (pv 6)) (pag_cons (pf_var (pv 2)) pag_nil)))))))) pag_nil)))))) (pds_one (pds_ret (pn_f pf_bl))) pds_nil)) (pds_cons (pds_setF (i := 9) sc_law.nd rfl (.inl rfl) (pf_n (pn_cd c_law_off hr h_law_off (by rfl) (pag_cons (pf_var (pv 3)) (pag_cons (pf_var (pv 2)) (pag_cons (pf_var (pv 4)) (pag_cons (pf_var (pv 7)) (pag_cons (pf_var (pv 6)) (pag_cons pf_int pag_nil)))))))))
    (pds_one (pds_if (ptd_w (pwd_or (ptd_w (pwd_and (ptd_cmp op_isntA snd_isnt (nomark _) (ph_f (pf_var (pv 9))) (ph_n (pn_f pf_non))) (pwd_and1 (ptd_not (ptd_tru (ph_n (pn_cd c_law_like hr h_law_like (by rfl) (pag_cons (pf_var (pv 8)) (pag_cons (pf_var (pv 9)) pag_nil))))))))) (pwd_or1 (ptd_w (pwd_and (ptd_cmp op_isA snd_is (nomark _) (ph_f (pf_var (pv 9))) (ph_n (pn_f pf_non))) (pwd_and1 (ptd_w (pwd_or (ptd_not (ptd_tru (ph_n (pn_f (pf_isi tyOk_int (by rfl) T.b_isinstance (ph_f (pf_var (pv 8))) (by rfl) T.b_int bt_int))))) (pwd_or1 (ptd_cmp op_ltA snd_lt (nomark _) (ph_f (pf_var (pv 8))) (ph_n (pn_f pf_int)))))))))))) (pds_one (pds_ret (pn_f pf_bl))) pds_nil)))))))))
    (pds_cons (pds_parN (i := 10) (j := 11) rfl sc_law.nd rfl rfl (by decide) rfl rfl (pn_f (pf_n (pn_cd c_law_plus hr h_law_plus (by rfl) (pag_cons (pf_n (pn_cd c_law_ratio hr h_law_ratio (by rfl) (pag_cons (pf_var (pv 3)) (pag_cons (pf_var (pv 2)) pag_nil)))) (pag_cons (pf_tup (pad_cons pf_int (pad_cons pf_int pad_nil))) pag_nil))))) (pn_f (pf_tup (pad_cons (pf_n (pn_op op_addA snd_add (ph_n (pn_f pf_int)) (ph_n (pn_cd c_law_draw hr h_law_draw (by rfl) (pag_conS (pv 1) (pag_cons pf_int pag_nil)))))) (pad_cons pf_int pad_nil)))) (by rfl))
    (pds_cons (pds_setF (i := 12) sc_law.nd rfl (.inl rfl) (pf_n (pn_cd c_first_off hr h_first_off (by rfl) (pag_cons (pf_var (pv 3)) (pag_cons (pf_var (pv 2)) (pag_cons (pf_var (pv 4)) (pag_cons (pf_var (pv 10)) (pag_cons (pf_var (pv 11)) pag_nil))))))))
    (pds_cons (pds_if (ptd_not (ptd_tru (ph_n (pn_cd c_law_number hr h_law_number (by rfl) (pag_cons (pf_var (pv 12)) (pag_cons pf_int (pag_cons (pf_n (pn_op op_pow snd_pow (ph_n (pn_f pf_int)) (ph_n (pn_f pf_int)))) pag_nil))))))) (pds_one (pds_ret (pn_f pf_bl))) pds_nil)
    (pds_cons (pds_for PassesOwn.never rfl (pid_seq (pf_tup (pad_cons (pf_tup (pad_cons (pf_var (pv 12)) (pad_cons pf_bl pad_nil))) (pad_cons (pf_tup (pad_cons (pf_n (pn_op op_sub snd_sub (ph_f (pf_var (pv 12))) (ph_n (pn_f pf_int)))) (pad_cons pf_bl pad_nil))) (pad_cons (pf_tup (pad_cons (pf_n (pn_op op_sub snd_sub (ph_f (pf_var (pv 12))) (ph_n (pn_f pf_int)))) (pad_cons pf_bl pad_nil))) pad_nil))))) (pgd_tup rfl (pgds_cons (pgd_name (i := 13) sc_law.nd rfl (.inl rfl)) (pgds_cons (pgd_name (i := 14) sc_law.nd rfl (.inl rfl)) pgds_nil)) rfl) (pds_cons (pds_setF (i := 15) sc_law.nd rfl (.inl rfl) (pf_n (pn_cd c_law_minus hr h_law_minus (by rfl) (pag_cons (pf_n (pn_cd c_law_product hr h_law_product (by rfl) (pag_cons (pf_var (pv 10)) (pag_cons (pf_tup (pad_cons (pf_var (pv 13)) (pad_cons pf_int pad_nil))) pag_nil)))) (pag_cons (pf_tup (pad_cons (pf_n (pn_op op_fdivA snd_fdiv (ph_n (pn_op op_addA snd_add (ph_n (pn_op op_mulA snd_mul (ph_f (pf_var (pv 3))) (ph_f (pf_var (pv 13))))) (ph_f (pf_var (pv 4))))) (ph_f (pf_var (pv 2))))) (pad_cons pf_int pad_nil))) pag_nil)))))
    (pds_one (pds_if (ptd_w (pwd_and (ptd_cmp op_ge snd_ge (nomark _) (ph_f (pf_var (pv 13))) (ph_n (pn_f pf_int))) (pwd_and1 (ptd_cmp (op_neA (hu64 hr)) snd_ne (nomark _) (ph_n (pn_cd c_law_less hr h_law_less (by rfl) (pag_cons (pf_var (pv 11)) (pag_cons (pf_tup (pad_cons (pf_n (pn_bi call_abs snd_abs (by rfl) T.b_abs bt_abs (pah_cons (ph_n (pn_ix ix_seq snd_ix (ph_f (pf_var (pv 15))) (ph_n (pn_f pf_int)) (fun _ _ => rfl))) pah_nil))) (pad_cons (pf_n (pn_ix ix_seq snd_ix (ph_f (pf_var (pv 15))) (ph_n (pn_f pf_int)) (fun _ _ => rfl))) pad_nil))) pag_nil)))) (ph_f (pf_var (pv 14))))))) (pds_one (pds_ret (pn_f pf_bl))) pds_nil))))
    (pds_cons (pds_setF (i := 16) sc_law.nd rfl (.inr rfl) (pf_n (pn_op op_addA snd_add (ph_n (pn_f pf_int)) (ph_n (pn_cd c_law_draw hr h_law_draw (by rfl) (pag_conS (pv 1) (pag_cons pf_int pag_nil)))))))
    (pds_cons (pds_setF (i := 17) sc_law.nd rfl (.inr rfl) (pf_n (pn_cd c_law_draw hr h_law_draw (by rfl) (pag_conS (pv 1) (pag_cons (pf_var (pv 16)) pag_nil)))))
    (pds_cons (pds_setF (i := 18) sc_law.nd rfl (.inr rfl) (pf_n (pn_bi (call_minA rfl) snd_min (by rfl) T.b_min bt_min (pah_cons (ph_n (pn_op op_sub snd_sub (ph_f (pf_var (pv 16))) (ph_n (pn_f pf_int)))) (pah_cons (ph_n (pn_op op_addA snd_add (ph_f (pf_var (pv 17))) (ph_n (pn_cd c_law_draw hr h_law_draw (by rfl) (pag_conS (pv 1) (pag_cons pf_int pag_nil)))))) pah_nil)))))
    (pds_cons (pds_setF (i := 19) sc_law.nd rfl (.inr rfl) (pf_n (pn_op op_sub snd_sub (ph_n (pn_cd c_law_draw hr h_law_draw (by rfl) (pag_conS (pv 1) (pag_cons pf_int pag_nil)))) (ph_n (pn_f pf_int)))))
    (pds_cons (pds_setLcF (i := 20) (own := [("n", 13)]) rfl sc_law.nd rfl rfl (sw_true rfl rfl rfl (by decide +kernel)) (pid_rng1 (by rfl) T.b_range (pad_cons (pf_var (pv 16)) pad_nil)) (blkOk_by (N := N_law) (sc := defScope s_law) (by decide +kernel)) (tgOk_n 13) (by decide) (fun _ _ _ _ _ => (pgd_name (i := 13) sc_law.nd rfl (.inl rfl))) (fun _ _ _ _ _ => (ptsd_one (ptd_chain op_le snd_le op_le snd_le (ph_f (pf_var (pv 17))) (ph_n (pn_op op_modA snd_mod (ph_n (pn_ty call_int1 snd_int (by rfl) T.b_int bt_int (pah_cons (ph_n (pn_op op_mulA snd_mul (ph_f (pf_var (pv 13))) (ph_f (pf_var (pv 19))))) pah_nil))) (ph_f (pf_var (pv 16))))) (ph_f (pf_var (pv 18)))))) (fun _ _ _ _ _ => (pf_var (pv 13))))
    (pds_cons (pds_if (ptd_not (ptd_tru (ph_n (pn_cd c_law_like hr h_law_like (by rfl) (pag_cons (pf_n (pn_cd c_first_in hr h_first_in (by rfl) (pag_cons (pf_var (pv 19)) (pag_cons (pf_var (pv 16)) (pag_cons (pf_var (pv 17)) (pag_cons (pf_var (pv 18)) pag_nil)))))) (pag_cons (pf_n (pn_if (ptd_cmp (op_neA (hu64 hr)) snd_ne (nomark _) (ph_f (pf_var (pv 20))) (ph_n (pn_lst pad_nil))) (pn_ix ix_seq snd_ix (ph_f (pf_var (pv 20))) (ph_n (pn_f pf_int)) (fun _ _ => rfl)) (pn_f pf_non))) pag_nil)))))) (pds_one (pds_ret (pn_f pf_bl))) pds_nil)
    (pds_cons (pds_setF (i := 21) sc_law.nd rfl (.inr rfl) pf_int)
    (pds_cons (pds_for PassesOwn.never rfl (pid_rng1 (by rfl) T.b_range (pad_cons (pf_n (pn_op op_addA snd_add (ph_n (pn_f pf_int)) (ph_n (pn_cd c_law_draw hr h_law_draw (by rfl) (pag_conS (pv 1) (pag_cons pf_int pag_nil)))))) pad_nil)) (pgd_name (i := 22) sc_law.nd rfl (.inl rfl)) (pds_one (pds_setF (i := 21) sc_law.nd rfl (.inr rfl) (pf_n (pn_op op_addA snd_add (ph_n (pn_op op_addA snd_add (ph_n (pn_op op_mulA snd_mul (ph_f (pf_var (pv 21))) (ph_n (pn_f pf_int)))) (ph_n (pn_f pf_int)))) (ph_n (pn_cd c_law_draw hr h_law_draw (by rfl) (pag_conS (pv 1) (pag_cons pf_int pag_nil)))))))))
    (pds_cons (pds_asg (pf_tup (pad_cons (pf_n (pn_op op_addA snd_add (ph_n (pn_op op_fdivA snd_fdiv (ph_f (pf_var (pv 21))) (ph_n (pn_f pf_int)))) (ph_n (pn_cd c_law_draw hr h_law_draw (by rfl) (pag_conS (pv 1) (pag_cons pf_int pag_nil)))))) (pad_cons (pf_n (pn_cd c_law_draw hr h_law_draw (by rfl) (pag_conS (pv 1) (pag_cons pf_int pag_nil)))) pad_nil))) (pgd_tup rfl (pgds_cons (pgd_name (i := 19) sc_law.nd rfl (.inr rfl)) (pgds_cons (pgd_name (i := 13) sc_law.nd rfl (.inl rfl)) pgds_nil)) rfl))
    (pds_cons (pds_setF (i := 23) sc_law.nd rfl (.inr rfl) (pf_n (pn_op op_modA snd_mod (ph_n (pn_ty call_int1 snd_int (by rfl) T.b_int bt_int (pah_cons (ph_n (pn_op op_mulA snd_mul (ph_f (pf_var (pv 13))) (ph_f (pf_var (pv 19))))) pah_nil))) (ph_f (pf_var (pv 21))))))
    (pds_cons (pds_setLcF (i := 24) (own := [("k", 22)]) rfl sc_law.nd rfl rfl (sw_true rfl rfl rfl (by decide +kernel)) (pid_rng1 (by rfl) T.b_range (pad_cons (pf_var (pv 13)) pad_nil)) (blkOk_by (N := N_law) (sc := defScope s_law) (by decide +kernel)) (tgOk_n 22) (by decide) (fun _ _ _ _ _ => (pgd_name (i := 22) sc_law.nd rfl (.inl rfl))) (fun _ _ _ _ _ => (ptsd_one (ptd_cmp (op_eqA (hu64 hr)) snd_eq (nomark _) (ph_n (pn_op op_modA snd_mod (ph_n (pn_ty call_int1 snd_int (by rfl) T.b_int bt_int (pah_cons (ph_n (pn_op op_mulA snd_mul (ph_f (pf_var (pv 22))) (ph_f (pf_var (pv 19))))) pah_nil))) (ph_f (pf_var (pv 21))))) (ph_f (pf_var (pv 23)))))) (fun _ _ _ _ _ => (pf_var (pv 22))))
    (pds_cons (pds_if (ptd_not (ptd_tru (ph_n (pn_cd c_law_like hr h_law_like (by rfl) (pag_cons (pf_n (pn_cd c_first_in hr h_first_in (by rfl) (pag_cons (pf_var (pv 19)) (pag_cons (pf_var (pv 21)) (pag_cons (pf_var (pv 23)) (pag_cons (pf_var (pv 23)) pag_nil)))))) (pag_cons (pf_n (pn_if (ptd_cmp (op_neA (hu64 hr)) snd_ne (nomark _) (ph_f (pf_var (pv 24))) (ph_n (pn_lst pad_nil))) (pn_ix ix_seq snd_ix (ph_f (pf_var (pv 24))) (ph_n (pn_f pf_int)) (fun _ _ => rfl)) (pn_f (pf_var (pv 13))))) pag_nil)))))) (pds_one (pds_ret (pn_f pf_bl))) pds_nil)
    (pds_cons (pds_setF (i := 25) sc_law.nd rfl (.inl rfl) (pf_n (pn_op op_addA snd_add (ph_n (pn_f pf_int)) (ph_n (pn_cd c_law_draw hr h_law_draw (by rfl) (pag_conS (pv 1) (pag_cons pf_int pag_nil)))))))
    (pds_cons (pds_setF (i := 19) sc_law.nd rfl (.inr rfl) (pf_n (pn_op op_addA snd_add (ph_n (pn_f pf_int)) (ph_n (pn_cd c_law_draw hr h_law_draw (by rfl) (pag_conS (pv 1) (pag_cons (pf_var (pv 16)) pag_nil)))))))
    (pds_cons (pds_setF (i := 26) sc_law.nd rfl (.inl rfl) (pf_n (pn_sortSet rfl (by rfl) T.b_sorted (by rfl) T.b_set (pf_n (pn_lc (own := [("k", 22)]) rfl sc_law.nd (pid_rng1 (by rfl) T.b_range (pad_cons (pf_var (pv 16)) pad_nil)) (blkOk_by (N := N_law) (sc := defScope s_law) (by decide +kernel)) (tgOk_n 22) (by decide) (fun _ _ _ _ _ => (pgd_name (i := 22) sc_law.nd rfl (.inl rfl))) (fun _ _ _ _ _ => ptsd_nil) (fun _ _ _ _ _ => (pf_n (pn_op op_modA snd_mod (ph_n (pn_ty call_int1 snd_int (by rfl) T.b_int bt_int (pah_cons (ph_n (pn_op op_mulA snd_mul (ph_f (pf_var (pv 22))) (ph_f (pf_var (pv 19))))) pah_nil))) (ph_f (pf_var (pv 16)))))))))))
    (pds_cons (pds_setF (i := 27) sc_law.nd rfl (.inl rfl) (pf_n (pn_bi call_lenA snd_len (by rfl) T.b_len bt_len (pah_cons (ph_f (pf_var (pv 26))) pah_nil))))
    (pds_cons (pds_setF (i := 25) sc_law.nd rfl (.inl rfl) (pf_n (pn_bi (call_minA rfl) snd_min (by rfl) T.b_min bt_min (pah_cons (ph_f (pf_var (pv 25))) (pah_cons (ph_f (pf_var (pv 27))) pah_nil)))))
    (pds_cons (pds_if (ptd_not (ptd_tru (ph_n (pn_cd c_law_like hr h_law_like (by rfl) (pag_cons (pf_n (pn_cd c_gaps hr h_gaps (by rfl) (pag_cons (pf_var (pv 19)) (pag_cons (pf_var (pv 16)) (pag_cons (pf_var (pv 25)) pag_nil))))) (pag_cons (pf_n (pn_cd c_law_gaps hr h_law_gaps (by rfl) (pag_cons (pf_var (pv 19)) (pag_cons (pf_var (pv 16)) (pag_cons (pf_var (pv 25)) pag_nil))))) pag_nil)))))) (pds_one (pds_ret (pn_f pf_bl))) pds_nil)
    (pds_cons (pds_setF (i := 19) sc_law.nd rfl (.inr rfl) (pf_n (pn_op op_addA snd_add (ph_n (pn_op op_mulA snd_mul (ph_n (pn_op op_fdivA snd_fdiv (ph_f (pf_var (pv 21))) (ph_n (pn_f pf_int)))) (ph_n (pn_f pf_int)))) (ph_n (pn_f pf_int)))))
    (pds_cons (pds_if (ptd_cmp op_gt snd_gt (nomark _) (ph_n (pn_cd c_law_gcd hr h_law_gcd (by rfl) (pag_cons (pf_var (pv 19)) (pag_cons (pf_var (pv 21)) pag_nil)))) (ph_n (pn_f pf_int))) (pds_one (pds_ret (pn_f pf_bl))) pds_nil)
    (pds_cons (pds_setF (i := 25) sc_law.nd rfl (.inl rfl) (pf_n (pn_op op_addA snd_add (ph_n (pn_f pf_int)) (ph_n (pn_cd c_law_draw hr h_law_draw (by rfl) (pag_conS (pv 1) (pag_cons pf_int pag_nil)))))))
    (pds_cons (pds_setF (i := 8) sc_law.nd rfl (.inl rfl) (pf_n (pn_cd c_gaps hr h_gaps (by rfl) (pag_cons (pf_var (pv 19)) (pag_cons (pf_var (pv 21)) (pag_cons (pf_var (pv 25)) pag_nil))))))
    (pds_cons (pds_if (ptd_w (pwd_or (ptd_not (ptd_tru (ph_n (pn_f (pf_isi tyOk_tuple (by rfl) T.b_isinstance (ph_f (pf_var (pv 8))) (by rfl) T.b_tuple bt_tuple))))) (pwd_or (ptd_not (ptd_chain op_le snd_le op_le snd_le (ph_n (pn_f pf_int)) (ph_n (pn_bi call_lenA snd_len (by rfl) T.b_len bt_len (pah_cons (ph_f (pf_var (pv 8))) pah_nil))) (ph_n (pn_f pf_int)))) (pwd_or1 (ptd_cmp (op_neA (hu64 hr)) snd_ne (nomark _) (ph_n (pn_bi (call_sumA rfl) snd_sum (by rfl) T.b_sum bt_sum (pah_cons (ph_n (pn_lc (own := [("size", 28), ("number", 29)]) rfl sc_law.nd (pid_seq (pf_var (pv 8))) (blkOk_by (N := N_law) (sc := defScope s_law) (by decide +kernel)) (tgOk_t (.cons (tgOk_n 28) (.cons (tgOk_n 29) .nil))) (by decide) (fun _ _ _ _ _ => (pgd_tup rfl (pgds_cons (pgd_name (i := 28) sc_law.nd rfl (.inl rfl)) (pgds_cons (pgd_name (i := 29) sc_law.nd rfl (.inl rfl)) pgds_nil)) rfl)) (fun _ _ _ _ _ => ptsd_nil) (fun _ _ _ _ _ => (pf_var (pv 29))))) pah_nil))) (ph_f (pf_var (pv 25)))))))) (pds_one (pds_ret (pn_f pf_bl))) pds_nil)
    (pds_one (pds_ret (pn_and (pn_cmp (op_eqA (hu64 hr)) snd_eq (nomark _) (ph_n (pn_bi (call_sumA rfl) snd_sum (by rfl) T.b_sum bt_sum (pah_cons (ph_n (pn_lc (own := [("size", 28), ("number", 29)]) rfl sc_law.nd (pid_seq (pf_var (pv 8))) (blkOk_by (N := N_law) (sc := defScope s_law) (by decide +kernel)) (tgOk_t (.cons (tgOk_n 28) (.cons (tgOk_n 29) .nil))) (by decide) (fun _ _ _ _ _ => (pgd_tup rfl (pgds_cons (pgd_name (i := 28) sc_law.nd rfl (.inl rfl)) (pgds_cons (pgd_name (i := 29) sc_law.nd rfl (.inl rfl)) pgds_nil)) rfl)) (fun _ _ _ _ _ => ptsd_nil) (fun _ _ _ _ _ => (pf_n (pn_op op_mulA snd_mul (ph_f (pf_var (pv 28))) (ph_f (pf_var (pv 29)))))))) pah_nil))) (ph_f (pf_var (pv 21)))) (pn_one (pn_or (pn_cmp op_ltA snd_lt (nomark _) (ph_n (pn_bi call_lenA snd_len (by rfl) T.b_len bt_len (pah_cons (ph_f (pf_var (pv 8))) pah_nil))) (ph_n (pn_f pf_int))) (pn_one (pn_cmp (op_eqA (hu64 hr)) snd_eq (nomark _) (ph_n (pn_ix ix_seq snd_ix (ph_n (pn_ix ix_seq snd_ix (ph_f (pf_var (pv 8))) (ph_n (pn_f pf_int)) (fun _ _ => rfl))) (ph_n (pn_f pf_int)) (fun _ _ => rfl))) (ph_n (pn_op op_addA snd_add (ph_n (pn_ix ix_seq snd_ix (ph_n (pn_ix ix_seq snd_ix (ph_f (pf_var (pv 8))) (ph_n (pn_f pf_int)) (fun _ _ => rfl))) (ph_n (pn_f pf_int)) (fun _ _ => rfl))) (ph_n (pn_ix ix_seq snd_ix (ph_n (pn_ix ix_seq snd_ix (ph_f (pf_var (pv 8))) (ph_n (pn_f pf_int)) (fun _ _ => rfl))) (ph_n (pn_f pf_int)) (fun _ _ => rfl)))))))))))))))))))))))))))))))))))))))))))) hS
end
end Lk23

namespace Lk23
/-! ### plain facts: rests of multiples, the gaps between them -/
def R (a m k : Nat) : Nat := (k * a) % m
theorem R_add (a m j k : Nat) : R a m (j + k) = (R a m j + R a m k) % m := by
  unfold R
  rw [Nat.add_mul, Nat.add_mod]
theorem R_lt {a m k : Nat} (h : 0 < m) : R a m k < m := Nat.mod_lt _ h
theorem mod_pick {x m : Nat} (h : x < 2 * m) : x % m = if x < m then x else x - m := by
  split
  · rename_i q; exact Nat.mod_eq_of_lt q
  · rename_i q
    rw [Nat.mod_eq_sub_mod (by omega), Nat.mod_eq_of_lt (by omega)]
theorem R_sum {a m j k : Nat} (hm : 0 < m) : R a m (j + k) = if R a m j + R a m k < m then R a m j + R a m k else R a m j + R a m k - m := by
  rw [R_add]
  have h1 := R_lt (a := a) (k := j) hm
  have h2 := R_lt (a := a) (k := k) hm
  exact mod_pick (by omega)
/-- the nearest ahead and the nearest behind -/
structure G3 (a m p q u v : Nat) : Prop where
  m0 : 0 < m
  u0 : 0 < u
  v0 : 0 < v
  p0 : 0 < p
  q0 : 0 < q
  ru : R a m u = p
  rv : R a m v + q = m
  ms : p * v + q * u = m
  lo : ∀ t, 1 ≤ t → t < u + v → p ≤ R a m t ∧ R a m t + q ≤ m
theorem G3.start {a m : Nat} (h0 : 0 < a) (h1 : a < m) : G3 a m a (m - a) 1 1 := by
  have e : R a m 1 = a := by
    unfold R
    rw [Nat.one_mul, Nat.mod_eq_of_lt h1]
  refine ⟨by omega, by decide, by decide, h0, by omega, e, by omega, by omega, fun t t1 t2 => ?_⟩
  have : t = 1 := by omega
  subst this
  omega
theorem G3.right {a m p q u v : Nat} (h : G3 a m p q u v) (hpq : q < p) : G3 a m (p - q) q (u + v) v := by
  have s := R_sum (a := a) (j := u) (k := v) h.m0
  have hru := h.ru
  have hrv := h.rv
  have hq := h.q0
  refine ⟨h.m0, by have := h.u0; omega, h.v0, by omega, h.q0, ?_, h.rv, ?_, fun t t1 t2 => ?_⟩
  · rw [s]
    split <;> omega
  · have e : (p - q) * v = p * v - q * v := Nat.sub_mul _ _ _
    have le : q * v ≤ p * v := Nat.mul_le_mul_right _ (by omega)
    have := h.ms
    rw [e, Nat.mul_add]
    omega
  · rcases Nat.lt_or_ge t (u + v) with z | z
    · have := h.lo t t1 z
      omega
    · have l := h.lo (t - v) (by have := h.u0; omega) (by omega)
      have s2 := R_sum (a := a) (j := t - v) (k := v) h.m0
      rw [show t - v + v = t by omega] at s2
      rw [s2]
      split <;> omega
theorem G3.left {a m p q u v : Nat} (h : G3 a m p q u v) (hpq : p < q) : G3 a m p (q - p) u (v + u) := by
  have s := R_sum (a := a) (j := v) (k := u) h.m0
  have hru := h.ru
  have hrv := h.rv
  have hp := h.p0
  refine ⟨h.m0, h.u0, by have := h.v0; omega, h.p0, by omega, h.ru, ?_, ?_, fun t t1 t2 => ?_⟩
  · rw [s]
    split <;> omega
  · have e : (q - p) * u = q * u - p * u := Nat.sub_mul _ _ _
    have le : p * u ≤ q * u := Nat.mul_le_mul_right _ (by omega)
    have := h.ms
    rw [e, Nat.mul_add]
    omega
  · rcases Nat.lt_or_ge t (u + v) with z | z
    · have := h.lo t t1 z
      omega
    · have l := h.lo (t - u) (by have := h.v0; omega) (by omega)
      have s2 := R_sum (a := a) (j := t - u) (k := u) h.m0
      rw [show t - u + u = t by omega] at s2
      rw [s2]
      split <;> omega
theorem G3.rights {a m : Nat} : ∀ (o p q u v : Nat), G3 a m p q u v → o * q < p → G3 a m (p - o * q) q (u + o * v) v
  | 0, p, q, u, v, h, _ => by simpa using h
  | o + 1, p, q, u, v, h, ho => by
    have e : (o + 1) * q = o * q + q := Nat.succ_mul _ _
    have e2 : (o + 1) * v = o * v + v := Nat.succ_mul _ _
    have h1 := G3.rights o p q u v h (by omega)
    have h2 := h1.right (by omega)
    rw [e, e2, show p - (o * q + q) = p - o * q - q by omega, show u + (o * v + v) = u + o * v + v by omega]
    exact h2
theorem G3.lefts {a m : Nat} : ∀ (o p q u v : Nat), G3 a m p q u v → o * p < q → G3 a m p (q - o * p) u (v + o * u)
  | 0, p, q, u, v, h, _ => by simpa using h
  | o + 1, p, q, u, v, h, ho => by
    have e : (o + 1) * p = o * p + p := Nat.succ_mul _ _
    have e2 : (o + 1) * u = o * u + u := Nat.succ_mul _ _
    have h1 := G3.lefts o p q u v h (by omega)
    have h2 := h1.left (by omega)
    rw [e, e2, show q - (o * p + p) = q - o * p - p by omega, show v + (o * u + u) = v + o * u + u by omega]
    exact h2
/-- no two rests are one -/
theorem G3.inj {a m p q u v n i j : Nat} (h : G3 a m p q u v) (hn : n ≤ u + v) (hi : i < n) (hj : j < n) (e : R a m i = R a m j) : i = j := by
  have key : ∀ {i j : Nat}, i < n → j < n → i < j → R a m i = R a m j → False := fun {i j} hi hj hij e => by
    have l := h.lo (j - i) (by omega) (by omega)
    have s := R_sum (a := a) (j := i) (k := j - i) h.m0
    rw [show i + (j - i) = j by omega] at s
    have := R_lt (a := a) (k := i) h.m0
    have := h.p0
    have := h.q0
    split at s <;> omega
  rcases Nat.lt_trichotomy i j with z | z | z
  · exact (key hi hj z e).elim
  · exact z
  · exact (key hj hi z e.symm).elim
theorem G3.pq {a m p q u v : Nat} (h : G3 a m p q u v) : p + q ≤ m := by
  have h1 : p * 1 ≤ p * v := Nat.mul_le_mul_left _ h.v0
  have h2 : q * 1 ≤ q * u := Nat.mul_le_mul_left _ h.u0
  have := h.ms
  omega
/-- the gap behind the k-th rest, and whose rest comes next -/
def gapS (p q u v n k : Nat) : Nat := if k + u < n then p else if v ≤ k then q else p + q
def gapJ (u v n k : Nat) : Nat := if k + u < n then k + u else if v ≤ k then k - v else k + u - v
theorem G3.jlt {a m p q u v n k : Nat} (h : G3 a m p q u v) (hu : u < n) (hv : v < n) (hn : n ≤ u + v) (hk : k < n) : gapJ u v n k < n := by
  have := h.v0
  unfold gapJ
  split
  · assumption
  · split <;> omega
theorem G3.next {a m p q u v n k : Nat} (h : G3 a m p q u v) (hu : u < n) (hv : v < n) (hn : n ≤ u + v) (hk : k < n) : R a m (gapJ u v n k) = if R a m k + gapS p q u v n k < m then R a m k + gapS p q u v n k else R a m k + gapS p q u v n k - m := by
  have hru := h.ru
  have hrv := h.rv
  have hp := h.p0
  have hq := h.q0
  unfold gapJ gapS
  split
  · have s := R_sum (a := a) (j := k) (k := u) h.m0
    rw [s, hru]
  · split
    · rename_i z1 z2
      have s := R_sum (a := a) (j := k - v) (k := v) h.m0
      rw [show k - v + v = k by omega] at s
      have := R_lt (a := a) (k := k - v) h.m0
      split at s <;> split <;> omega
    · rename_i z1 z2
      have s := R_sum (a := a) (j := k) (k := u) h.m0
      have s2 := R_sum (a := a) (j := k + u - v) (k := v) h.m0
      rw [show k + u - v + v = k + u by omega] at s2
      have := R_lt (a := a) (k := k + u - v) h.m0
      have := R_lt (a := a) (k := k) h.m0
      have := h.pq
      split at s <;> split at s2 <;> split <;> omega
/-- nothing lies between -/
theorem G3.none {a m p q u v n k i d : Nat} (h : G3 a m p q u v) (hu : u < n) (hv : v < n) (hn : n ≤ u + v) (hk : k < n) (hi : i < n) (d0 : 0 < d) (hd : R a m i = if R a m k + d < m then R a m k + d else R a m k + d - m) (dm : d < m) : gapS p q u v n k ≤ d := by
  have hru := h.ru
  have hrv := h.rv
  have hp := h.p0
  have hq := h.q0
  have hm := h.m0
  have rk := R_lt (a := a) (k := k) hm
  have ri := R_lt (a := a) (k := i) hm
  have hne : i ≠ k := fun e => by subst e; split at hd <;> omega
  rcases Nat.lt_or_ge k i with z | z
  · -- ahead in the row: the rest of i - k is d
    have s := R_sum (a := a) (j := k) (k := i - k) hm
    rw [show k + (i - k) = i by omega] at s
    have rt := R_lt (a := a) (k := i - k) hm
    have hR : R a m (i - k) = d := by
      split at hd <;> split at s <;> omega
    have l := h.lo (i - k) (by omega) (by omega)
    unfold gapS
    split
    · omega
    · rename_i z1
      -- i - k < u : behind it stands one more
      have s2 := R_sum (a := a) (j := i - k) (k := v) hm
      have l2 := h.lo (i - k + v) (by omega) (by omega)
      split
      · split at s2 <;> omega
      · split at s2 <;> omega
  · have s := R_sum (a := a) (j := i) (k := k - i) hm
    rw [show i + (k - i) = k by omega] at s
    have rt := R_lt (a := a) (k := k - i) hm
    have hR : R a m (k - i) + d = m := by
      split at hd <;> split at s <;> omega
    have l := h.lo (k - i) (by omega) (by omega)
    unfold gapS
    split
    · rename_i z1
      have s2 := R_sum (a := a) (j := k - i) (k := u) hm
      have l2 := h.lo (k - i + u) (by omega) (by omega)
      split at s2 <;> omega
    · split
      · omega
      · rename_i z1 z2
        have s2 := R_sum (a := a) (j := k - i) (k := u) hm
        have l2 := h.lo (k - i + u) (by omega) (by omega)
        split at s2 <;> omega
end Lk23

namespace Lk23
/-! ### plain facts: the first of a kind, the drift -/
def IsL (P : Nat → Prop) : Option Nat → Prop
  | none => ∀ n, ¬ P n
  | some k => P k ∧ ∀ n, n < k → ¬ P n
theorem IsL.uniq {P : Nat → Prop} : ∀ {o o' : Option Nat}, IsL P o → IsL P o' → o = o'
  | none, none, _, _ => rfl
  | none, some k, h, h' => (h k h'.1).elim
  | some k, none, h, h' => (h' k h.1).elim
  | some k, some l, h, h' => by
    rcases Nat.lt_trichotomy k l with z | z | z
    · exact (h'.2 k z h.1).elim
    · rw [z]
    · exact (h.2 l z h'.1).elim
theorem IsL.congr {P P' : Nat → Prop} {o : Option Nat} (h : IsL P o) (e : ∀ n, P n ↔ P' n) : IsL P' o := by
  cases o with
  | none => exact fun n q => h n ((e n).mpr q)
  | some k => exact ⟨(e k).mp h.1, fun n z q => h.2 n z ((e n).mpr q)⟩
def eo (a b c : Nat) (p : Int) (q : Nat) (k : Nat) : Int := (k : Int) * p - q * (((a : Int) * k + c) / b)
def yr (a b : Nat) : Nat := b / Nat.gcd a b
def rise (a b : Nat) (p : Int) (q : Nat) : Int := (yr a b : Int) * p - q * ((a : Int) * (yr a b : Int) / b)
def Off (a b c : Nat) (p : Int) (q : Nat) (B : Int) (k : Nat) : Prop := B < eo a b c p q k ∨ B < - eo a b c p q k
theorem yr_pos {a b : Nat} (hb : 0 < b) : 0 < yr a b := Nat.div_pos (Nat.le_of_dvd hb (Nat.gcd_dvd_right a b)) (Nat.gcd_pos_of_pos_right a hb)
theorem yr_le (a b : Nat) : yr a b ≤ b := Nat.div_le_self _ _
theorem yr_mul (a b : Nat) : a * yr a b = b * (a / Nat.gcd a b) := by
  unfold yr
  obtain ⟨x, hx⟩ := Nat.gcd_dvd_left a b
  obtain ⟨y, hy⟩ := Nat.gcd_dvd_right a b
  rcases Nat.eq_zero_or_pos (Nat.gcd a b) with z | z
  · rw [z] at hx hy ⊢
    simp
  · have e1 : b / Nat.gcd a b = y := by
      conv => lhs; lhs; rw [hy]
      exact Nat.mul_div_cancel_left _ z
    have e2 : a / Nat.gcd a b = x := by
      conv => lhs; lhs; rw [hx]
      exact Nat.mul_div_cancel_left _ z
    rw [e1, e2]
    generalize Nat.gcd a b = g at *
    subst hx
    subst hy
    rw [Nat.mul_assoc, Nat.mul_assoc, Nat.mul_comm x y]
theorem yr_mulI (a b : Nat) : (a : Int) * (yr a b : Int) = b * ((a / Nat.gcd a b : Nat) : Int) := by
  have := yr_mul a b
  exact_mod_cast this
theorem yr_div {a b : Nat} (hb : 0 < b) : (a : Int) * (yr a b : Int) / b = ((a / Nat.gcd a b : Nat) : Int) := by
  rw [yr_mulI, Int.mul_ediv_cancel_left _ (by omega)]
theorem eo_per {a b c : Nat} {p : Int} {q : Nat} (hb : 0 < b) (k : Nat) : eo a b c p q (k + yr a b) = eo a b c p q k + rise a b p q := by
  unfold eo rise
  rw [yr_div hb]
  have e : (a : Int) * ((k + yr a b : Nat) : Int) + c = ((a : Int) * k + c) + b * ((a / Nat.gcd a b : Nat) : Int) := by
    rw [← yr_mulI, Int.natCast_add, Int.mul_add]
    omega
  rw [e, Int.add_mul_ediv_left _ _ (by omega), Int.natCast_add, Int.add_mul, Int.mul_add]
  omega
theorem eo_pers {a b c : Nat} {p : Int} {q : Nat} (hb : 0 < b) (k : Nat) : ∀ j : Nat, eo a b c p q (k + j * yr a b) = eo a b c p q k + j * rise a b p q
  | 0 => by simp
  | j + 1 => by
    rw [Nat.succ_mul, ← Nat.add_assoc, eo_per hb, eo_pers hb k j, Int.natCast_add, Int.add_mul]
    omega
theorem eo_mod {a b c : Nat} {p : Int} {q : Nat} (hb : 0 < b) (n : Nat) : eo a b c p q n = eo a b c p q (n % yr a b) + (n / yr a b : Nat) * rise a b p q := by
  rw [← eo_pers hb, Nat.mul_comm, Nat.mod_add_div]
/-- the place of a round's year that is off first -/
def vv (B r : Int) (y : Nat) (f : Nat → Int) (k : Nat) : Int := ((B - f k) / r + 1) * y + k
theorem off_rise {f : Nat → Int} {B r : Int} {y : Nat} (hr : 0 < r) (hy : 0 < y) (hf : ∀ n, f n = f (n % y) + (n / y : Nat) * r) (hB : ∀ k, k < y → -B ≤ f k ∧ f k ≤ B) (n : Nat) : (B < f n ∨ B < - f n) ↔ vv B r y f (n % y) ≤ n := by
  have hk := Nat.mod_lt n hy
  obtain ⟨h1, h2⟩ := hB _ hk
  have hn : (n : Int) = (n / y : Nat) * (y : Int) + (n % y : Nat) := by
    have := Nat.div_add_mod n y
    have e : ((y * (n / y) + n % y : Nat) : Int) = (n : Int) := by rw [this]
    rw [Int.natCast_add, Int.natCast_mul, Int.mul_comm] at e
    exact e.symm
  have hj : 0 ≤ ((n / y : Nat) : Int) * r := Int.mul_nonneg (Int.natCast_nonneg _) (by omega)
  have e1 : (B < f n ∨ B < - f n) ↔ B - f (n % y) < (n / y : Nat) * r := by
    rw [hf n]
    generalize f (n % y) = g at *
    omega
  rw [e1]
  have e2 : B - f (n % y) < (n / y : Nat) * r ↔ (B - f (n % y)) / r < (n / y : Nat) := by
    rw [Int.ediv_lt_iff_lt_mul hr]
  rw [e2]
  unfold vv
  generalize (B - f (n % y)) / r = t at *
  generalize n / y = j at *
  have e3 : (t + 1) * y + ((n % y : Nat) : Int) ≤ n ↔ (t + 1) * (y : Int) ≤ (j : Int) * (y : Int) := by omega
  rw [e3]
  constructor
  · intro h
    exact Int.mul_le_mul_of_nonneg_right (by omega) (by omega)
  · intro h
    have := Int.le_of_mul_le_mul_right h (by omega)
    omega
theorem off_least {f : Nat → Int} {B r : Int} {y : Nat} (hr : 0 < r) (hy : 0 < y) (hf : ∀ n, f n = f (n % y) + (n / y : Nat) * r) (hB : ∀ k, k < y → -B ≤ f k ∧ f k ≤ B) {v : Int} (hv : ∃ k, k < y ∧ v = vv B r y f k) (hm : ∀ k, k < y → v ≤ vv B r y f k) : 0 ≤ v ∧ IsL (fun n => B < f n ∨ B < - f n) (some v.toNat) := by
  obtain ⟨k, hk, rfl⟩ := hv
  have h0 : 0 ≤ (B - f k) / r := Int.ediv_nonneg (by have := (hB k hk).2; omega) (by omega)
  have hp : 0 ≤ vv B r y f k := by
    unfold vv
    have : 0 ≤ ((B - f k) / r + 1) * (y : Int) := Int.mul_nonneg (by omega) (by omega)
    omega
  refine ⟨hp, (off_rise hr hy hf hB _).mpr ?_, fun n hn => ?_⟩
  · rw [Int.toNat_of_nonneg hp]
    have e : (vv B r y f k).toNat % y = k := by
      have e1 : vv B r y f k = (((((B - f k) / r + 1).toNat * y + k : Nat)) : Int) := by
        unfold vv
        rw [Int.natCast_add, Int.natCast_mul, Int.toNat_of_nonneg (by omega)]
      rw [e1, Int.toNat_natCast, Nat.mul_comm, Nat.mul_add_mod]
      exact Nat.mod_eq_of_lt hk
    rw [e]
    exact Int.le_refl _
  · intro q
    have := (off_rise hr hy hf hB n).mp q
    have := hm (n % y) (Nat.mod_lt n hy)
    omega
/-- the rounds alike: nothing is off behind the first one -/
theorem off_none {f : Nat → Int} {B : Int} {y : Nat} (hy : 0 < y) (hf : ∀ n, f n = f (n % y)) (hB : ∀ k, k < y → -B ≤ f k ∧ f k ≤ B) : IsL (fun n => B < f n ∨ B < - f n) none := fun n q => by
  have := hB _ (Nat.mod_lt n hy)
  have q : B < f n ∨ B < - f n := q
  rw [hf n] at q
  omega
end Lk23
namespace Lk23
open PySem L2 DL PyProof.Rows Md Sh ShW
/-! ### first_off -/
noncomputable def S_first_off : Sf := spN 5 13 (m_first_off S_count)
theorem sem_first_off : ∀ cs c outs, S_first_off cs = .ok (c, outs) → cs.length = 5 ∧ runD 13 (m_first_off S_count) cs = .ok (c, outs) := spN_sem
structure FO (a b c : Nat) (p : Int) (q e0 e1 : Nat) : Prop where
  b0 : 0 < b
  b1 : b < 1000
  a1 : a < 1000
  c1 : c < 1000
  p0 : -100000 < p
  p1 : p < 100000
  q0 : 0 < q
  q1 : q < 100000
  h0 : e0 < 10000
  h1 : 0 < e1
  h2 : e1 < 10000
def bd (q e0 e1 : Nat) : Int := (e0 : Int) * q / e1
def oD : Option Nat → D
  | none => .none
  | some k => .int (k : Int)
theorem en_range (f : Nat → Int) (n : Nat) : enD 0 ((List.range n).map fun k => D.int (f k)) = (List.range n).map fun (k : Nat) => D.tuple [.int (k : Int), .int (f k)] := by
  apply List.ext_getElem?
  intro i
  rw [enD_get, List.getElem?_map, List.getElem?_map]
  rcases Nat.lt_or_ge i n with h | h
  · rw [List.getElem?_range h]
    simp
  · rw [List.getElem?_eq_none (by simp; omega)]
    rfl
def eG (a b c : Nat) (r e : D) (c5 c6 c7 c8 c9 c10 c11 c12 : Option D) : En := [some (.f (.int (a : Int))), some (.f (.int (b : Int))), some (.f (.int (c : Int))), some (.f r), some (.f e), c5.map .f, c6.map .f, c7.map .f, c8.map .f, c9.map .f, c10.map .f, c11.map .f, c12.map .f]
def eF (a b c : Nat) (p : Int) (q : Nat) (B : Int) (r e : D) (es : List D) (c10 c11 c12 : Option D) : En := eG a b c r e (some (.int p)) (some (.int (q : Int))) (some (.int B)) (some (.int (yr a b : Int))) (some (.list es)) c10 c11 c12
section
variable {a b c : Nat} {p : Int} {q e0 e1 : Nat} {B : Int} {r e : D} {es : List D} {c12 : Option D}
theorem fo_comp (h : FO a b c p q e0 e1) : mComp (mRng1 (aCons (mVar 8) aNil)) (tgN 10) [10] mYes (m_first_off_e1 S_count) (eG a b c r e (some (.int p)) (some (.int (q : Int))) (some (.int B)) (some (.int (yr a b : Int))) none none none none) = .ok (.l false ((List.range (yr a b)).map fun k => D.int (eo a b c p q k)), eG a b c r e (some (.int p)) (some (.int (q : Int))) (some (.int B)) (some (.int (yr a b : Int))) none none none none) := by
  have b0 := h.b0
  have b1 := h.b1
  have a1 := h.a1
  have p0 := h.p0
  have p1 := h.p1
  have q1 := h.q1
  have yl := yr_le a b
  refine comp_rg (n := yr a b) _ (by simp [eG]) (tgOk_n 10) (by simp) (by simp [eG]) (hz_of (by omega)) fun k hk => ?_
  have kc := count_r (a := (a : Int)) (b := (b : Int)) (c := (c : Int)) (n := (k : Int)) ⟨by omega, by omega⟩ (by omega) (by omega)
  have w1 := mulD_i (show MulOk (k : Int) p from mulOk_r' (by omega) (by omega))
  have w2 := mulD_i (show MulOk (q : Int) (((a : Int) * k + c) / b) from mulOk_l (by omega) (by omega))
  refine ⟨eG a b c r e (some (.int p)) (some (.int (q : Int))) (some (.int B)) (some (.int (yr a b : Int))) none (some (.int (k : Int))) none none, by simp [wipeE, eG], ?_⟩
  unfold eo
  generalize (((a : Int) * k + c) / b) = cv at *
  simp [m_first_off_e1, eG, kc, w1, w2]
theorem fo_loop {f : Nat → Int} : ∀ (m lo : Nat) (c10 c11 : Option D), (∃ c10' c11', loopL (tgT [(tgN 10), (tgN 11)]) m_first_off_b1 ((List.range' lo m).map fun (k : Nat) => D.tuple [.int (k : Int), .int (f k)]) (eF a b c p q B r e es c10 c11 c12) = .nx (eF a b c p q B r e es c10' c11' c12) ∧ ∀ k, lo ≤ k → k < lo + m → -B ≤ f k ∧ f k ≤ B) ∨ ∃ (k : Nat) (e' : En), loopL (tgT [(tgN 10), (tgN 11)]) m_first_off_b1 ((List.range' lo m).map fun (k : Nat) => D.tuple [.int (k : Int), .int (f k)]) (eF a b c p q B r e es c10 c11 c12) = .rt (.f (.int (k : Int))) e' ∧ lo ≤ k ∧ k < lo + m ∧ ¬ (-B ≤ f k ∧ f k ≤ B) ∧ ∀ j, lo ≤ j → j < k → -B ≤ f j ∧ f j ≤ B
  | 0, lo, c10, c11 => .inl ⟨c10, c11, rfl, fun k h1 h2 => by omega⟩
  | m + 1, lo, c10, c11 => by
    rw [List.range'_succ, List.map_cons]
    have t : tgT [(tgN 10), (tgN 11)] (D.tuple [.int (lo : Int), .int (f lo)]) (eF a b c p q B r e es c10 c11 c12) = .ok (eF a b c p q B r e es (some (.int (lo : Int))) (some (.int (f lo))) c12) := by
      cases c10 <;> cases c11 <;> simp [eF, eG]
    by_cases hq : -B ≤ f lo ∧ f lo ≤ B
    · have hb : m_first_off_b1 (eF a b c p q B r e es (some (.int (lo : Int))) (some (.int (f lo))) c12) = .nx (eF a b c p q B r e es (some (.int (lo : Int))) (some (.int (f lo))) c12) := by
        have e : ¬ (if f lo < 0 then -f lo else f lo) > B := by split <;> omega
        generalize f lo = v at *
        simp [m_first_off_b1, eF, eG, e]
      rcases fo_loop (f := f) m (lo + 1) (some (.int (lo : Int))) (some (.int (f lo))) with ⟨d10, d11, g1, g2⟩ | ⟨k, e', g1, g2, g3, g4, g5⟩
      · refine .inl ⟨d10, d11, (loop_nx t hb).trans g1, fun k k1 k2 => ?_⟩
        rcases Nat.eq_or_lt_of_le k1 with z | z
        · rw [← z]; exact hq
        · exact g2 k z (by omega)
      · refine .inr ⟨k, e', (loop_nx t hb).trans g1, by omega, by omega, g4, fun j k1 k2 => ?_⟩
        rcases Nat.eq_or_lt_of_le k1 with z | z
        · rw [← z]; exact hq
        · exact g5 j z (by omega)
    · refine .inr ⟨lo, eF a b c p q B r e es (some (.int (lo : Int))) (some (.int (f lo))) c12, loop_rt t ?_, Nat.le_refl _, by omega, hq, fun j k1 k2 => by omega⟩
      have e : (if f lo < 0 then -f lo else f lo) > B := by split <;> omega
      generalize f lo = v at *
      simp [m_first_off_b1, eF, eG, e]
/-- the last return -/
theorem fo_last (h : FO a b c p q e0 e1) {f : Nat → Int} {c10 c11 : Option D} {rise : Int} (hr : 0 < rise) (hr2 : rise < 2 ^ 60) : ∃ v e', sRet (mL minD (aCons (mH (mComp (mEnum (mVar 9)) (tgT [(tgN 10), (tgN 11)]) [10, 11] mYes m_first_off_e3)) aNil)) (eF a b c p q B r e ((List.range (yr a b)).map fun k => D.int (f k)) c10 c11 (some (.int rise))) = .rt (.f (.int v)) e' ∧ (∃ k, k < yr a b ∧ v = vv B rise (yr a b) f k) ∧ ∀ k, k < yr a b → v ≤ vv B rise (yr a b) f k := by
  have b0 := h.b0
  have b1 := h.b1
  have yl := yr_le a b
  have y0 := yr_pos (a := a) h.b0
  have hz : mComp (mEnum (mVar 9)) (tgT [(tgN 10), (tgN 11)]) [10, 11] mYes m_first_off_e3 (eF a b c p q B r e ((List.range (yr a b)).map fun k => D.int (f k)) c10 c11 (some (.int rise))) = .ok (.l false (((List.range (yr a b)).map (vv B rise (yr a b) f)).map .int), eF a b c p q B r e ((List.range (yr a b)).map fun k => D.int (f k)) c10 c11 (some (.int rise))) := by
    rw [List.map_map]
    refine mComp_of (List.range (yr a b)) (fun (k : Nat) => D.tuple [.int (k : Int), .int (f k)]) _ ?_ (tgOk_t (.cons (tgOk_n 10) (.cons (tgOk_n 11) .nil))) (by simp) (by cases c10 <;> cases c11 <;> simp [eF, eG]) (hz_of (by rw [List.length_range]; omega)) fun k hk => ?_
    · rw [← en_range]
      simp [eF, eG]
    · have w1 := mulD_i (show DL.MulOk (((B - f k) / rise) + 1) (yr a b : Int) from mulOk_r' (by omega) (by omega))
      have d1 := fdivD_i (i := B - f k) (divS (b := rise) hr (by omega))
      refine ⟨eF a b c p q B r e ((List.range (yr a b)).map fun k => D.int (f k)) (some (.int (k : Int))) (some (.int (f k))) (some (.int rise)), ?_, ?_⟩
      · generalize (List.range (yr a b)).map (fun k => D.int (f k)) = ds
        cases c10 <;> cases c11 <;> simp [wipeE, eF, eG]
      · generalize (List.range (yr a b)).map (fun k => D.int (f k)) = ds
        show _ = Rs.ok (D.int (((B - f k) / rise + 1) * (yr a b : Int) + k), _)
        generalize f k = v at *
        generalize (B - v) / rise = t at *
        simp [m_first_off_e3, eF, eG, d1, w1]
  have hne : ((List.range (yr a b)).map (vv B rise (yr a b) f)) ≠ [] := by
    intro e
    have := congrArg List.length e
    simp at this
    omega
  have hm := minD_l hne
  have s3 : ∀ {z : M Ce} {e : En} {ds : List D} {v : Int}, z e = .ok (.l false ds, e) → minD [.list ds] = .ok (.f (.int v)) → sRet (mL minD (aCons (mH z) aNil)) e = .rt (.f (.int v)) e := fun {z e ds v} hz hm => by simp [hz, hm]
  obtain ⟨m1', m2'⟩ := minL_mem hne
  obtain ⟨k, hk, e⟩ := List.mem_map.mp m1'
  exact ⟨_, _, s3 hz hm, ⟨k, List.mem_range.mp hk, e.symm⟩, fun k hk => m2' _ (List.mem_map.mpr ⟨k, List.mem_range.mpr hk, rfl⟩)⟩
abbrev qP (p : Int) (q : Nat) : D := .tuple [.int p, .int (q : Int)]
theorem fo_s1 : (sTgt (tgT [(tgN 5), (tgN 6)]) (mVar 3)) (eG a b c (qP p q) e none none none none none none none none) = .nx (eG a b c (qP p q) e (some (.int p)) (some (.int (q : Int))) none none none none none none) := by
  simp [eG]
theorem fo_s2 (h : FO a b c p q e0 e1) : sAsgF 7 (mZ (m2 fdivD (mH (m2 mulD (mH (m2 ixD (mH (mN (mVar 4))) (mH (mN (mC (.int 0)))))) (mH (mN (mVar 6))))) (mH (m2 ixD (mH (mN (mVar 4))) (mH (mN (mC (.int 1)))))))) (eG a b c r (qP (e0 : Int) e1) (some (.int p)) (some (.int (q : Int))) none none none none none none) = .nx (eG a b c r (qP (e0 : Int) e1) (some (.int p)) (some (.int (q : Int))) (some (.int (bd q e0 e1))) none none none none none) := by
  have q1 := h.q1
  have h0 := h.h0
  have h1 := h.h1
  have h2 := h.h2
  have w1 := mulD_i (show MulOk (e0 : Int) (q : Int) from mulOk_r' (by omega) (by omega))
  have d1 := fdivD_i (i := (e0 : Int) * q) (divS (b := (e1 : Int)) (by omega) (by omega))
  unfold bd
  generalize (e0 : Int) * q / e1 = cv at *
  simp [eG, w1, d1]
theorem fo_s3 (h : FO a b c p q e0 e1) : sAsgF 8 (mZ (m2 fdivD (mH (mN (mVar 1))) (mH (mL gcdD (aCons (mH (mN (mVar 0))) (aCons (mH (mN (mVar 1))) aNil)))))) (eG a b c r e (some (.int p)) (some (.int (q : Int))) (some (.int B)) none none none none none) = .nx (eG a b c r e (some (.int p)) (some (.int (q : Int))) (some (.int B)) (some (.int (yr a b : Int))) none none none none) := by
  have b0 := h.b0
  have b1 := h.b1
  have g0 := Nat.gcd_pos_of_pos_right a h.b0
  have g1 := Nat.gcd_le_right a h.b0
  have ge : gcdD [.int (a : Int), .int (b : Int)] = .ok (.f (.int ((Nat.gcd a b : Nat) : Int))) := by
    rw [gcdD_i, Int.natAbs_natCast, Int.natAbs_natCast]
  have d1 := fdivD_i (i := (b : Int)) (divS (b := ((Nat.gcd a b : Nat) : Int)) (by omega) (by omega))
  have e1 : (b : Int) / ((Nat.gcd a b : Nat) : Int) = (yr a b : Int) := rfl
  rw [e1] at d1
  generalize Nat.gcd a b = g at *
  simp [eG, ge, d1, -gcdD_i]
theorem fo_s4 {z : M Ce} {ds : List D} (hz : z (eG a b c r e (some (.int p)) (some (.int (q : Int))) (some (.int B)) (some (.int (yr a b : Int))) none none none none) = .ok (.l false ds, (eG a b c r e (some (.int p)) (some (.int (q : Int))) (some (.int B)) (some (.int (yr a b : Int))) none none none none))) : sAsgF 9 (mZ z) (eG a b c r e (some (.int p)) (some (.int (q : Int))) (some (.int B)) (some (.int (yr a b : Int))) none none none none) = .nx (eF a b c p q B r e ds none none none) := by
  simp only [eG, Option.map_some, Option.map_none] at hz
  simp [hz, eF, eG]
theorem fo_s6 (h : FO a b c p q e0 e1) {c10 c11 : Option D} : sAsgF 12 (mZ (m2 subD (mH (m2 mulD (mH (mN (mVar 8))) (mH (mN (mVar 5))))) (mH (m2 mulD (mH (mN (mVar 6))) (mH (m2 fdivD (mH (m2 mulD (mH (mN (mVar 0))) (mH (mN (mVar 8))))) (mH (mN (mVar 1))))))))) (eF a b c p q B r e es c10 c11 none) = .nx (eF a b c p q B r e es c10 c11 (some (.int (rise a b p q)))) := by
  have b0 := h.b0
  have b1 := h.b1
  have a1 := h.a1
  have p0 := h.p0
  have p1 := h.p1
  have q1 := h.q1
  have yl := yr_le a b
  have w1 := mulD_i (show MulOk (yr a b : Int) p from mulOk_r' (by omega) (by omega))
  have w2 := mulD_i (show MulOk (a : Int) (yr a b : Int) from mulOk_r' (by omega) (by omega))
  have w3 := mulD_i (show MulOk (q : Int) ((a : Int) * (yr a b : Int) / b) from mulOk_l (by omega) (by omega))
  have d1 := fdivD_i (i := (a : Int) * (yr a b : Int)) (divS (b := (b : Int)) (by omega) (by omega))
  unfold rise
  generalize (a : Int) * (yr a b : Int) / b = cv at *
  simp [eF, eG, w1, w2, w3, d1]
theorem fo_s7 {c10 c11 : Option D} {v : Int} (hv : v ≠ 0) : sIf (mBool (m2 eqD (mH (mN (mVar 12))) (mH (mN (mC (.int 0)))))) (sRet (mN (mC .none))) sNext (eF a b c p q B r e es c10 c11 (some (.int v))) = .nx (eF a b c p q B r e es c10 c11 (some (.int v))) := by
  simp [eF, eG, hv]
theorem fo_s7n {c10 c11 : Option D} : sIf (mBool (m2 eqD (mH (mN (mVar 12))) (mH (mN (mC (.int 0)))))) (sRet (mN (mC .none))) sNext (eF a b c p q B r e es c10 c11 (some (.int 0))) = .rt (.f .none) (eF a b c p q B r e es c10 c11 (some (.int 0))) := by
  simp [eF, eG]
theorem fo_s8p {c10 c11 : Option D} {v : Int} (hv : 0 < v) {s : En → Out} : sIf (mBool (m2 ltD (mH (mN (mVar 12))) (mH (mN (mC (.int 0)))))) s sNext (eF a b c p q B r e es c10 c11 (some (.int v))) = .nx (eF a b c p q B r e es c10 c11 (some (.int v))) := by
  have : ¬ v < 0 := by omega
  simp [eF, eG, this]
theorem fo_s8n (h : FO a b c p q e0 e1) {f : Nat → Int} {c10 c11 : Option D} {v : Int} (hv : v < 0) : sIf (mBool (m2 ltD (mH (mN (mVar 12))) (mH (mN (mC (.int 0)))))) (sSeq (sAsgF 12 (mZ (m1 negD (mH (mN (mVar 12)))))) (sAsgF 9 (mZ (mComp (mSeqA (mVar 9)) (tgN 11) [11] mYes m_first_off_e2)))) sNext (eF a b c p q B r e ((List.range (yr a b)).map fun k => D.int (f k)) c10 c11 (some (.int v))) = .nx (eF a b c p q B r e ((List.range (yr a b)).map fun k => D.int (-f k)) c10 c11 (some (.int (-v)))) := by
  have b1 := h.b1
  have yl := yr_le a b
  have hz : mComp (mSeqA (mVar 9)) (tgN 11) [11] mYes m_first_off_e2 (eF a b c p q B r e ((List.range (yr a b)).map fun k => D.int (f k)) c10 c11 (some (.int (-v)))) = .ok (.l false ((List.range (yr a b)).map fun k => D.int (-f k)), eF a b c p q B r e ((List.range (yr a b)).map fun k => D.int (f k)) c10 c11 (some (.int (-v)))) := by
    refine mComp_of (List.range (yr a b)) (fun k => D.int (f k)) _ ?_ (tgOk_n 11) (by simp) (by cases c11 <;> simp [eF, eG]) (hz_of (by rw [List.length_range]; omega)) fun k hk => ?_
    · simp [eF, eG]
    · refine ⟨eF a b c p q B r e ((List.range (yr a b)).map fun k => D.int (f k)) c10 (some (.int (f k))) (some (.int (-v))), ?_, ?_⟩
      · generalize (List.range (yr a b)).map (fun k => D.int (f k)) = ds
        cases c11 <;> simp [wipeE, eF, eG]
      · generalize (List.range (yr a b)).map (fun k => D.int (f k)) = ds
        simp [m_first_off_e2, eF, eG]
  have s1 : sAsgF 12 (mZ (m1 negD (mH (mN (mVar 12))))) (eF a b c p q B r e ((List.range (yr a b)).map fun k => D.int (f k)) c10 c11 (some (.int v))) = .nx (eF a b c p q B r e ((List.range (yr a b)).map fun k => D.int (f k)) c10 c11 (some (.int (-v)))) := by
    generalize (List.range (yr a b)).map (fun k => D.int (f k)) = ds
    simp [eF, eG]
  have s2 : ∀ {z : M Ce} {ds es : List D}, z (eF a b c p q B r e ds c10 c11 (some (.int (-v)))) = .ok (.l false es, eF a b c p q B r e ds c10 c11 (some (.int (-v)))) → sAsgF 9 (mZ z) (eF a b c p q B r e ds c10 c11 (some (.int (-v)))) = .nx (eF a b c p q B r e es c10 c11 (some (.int (-v)))) := fun {z ds es} hz => by
    have hz' := hz
    simp only [eF, eG, Option.map_some] at hz'
    simp [eF, eG, hz']
  have hT : ∀ {s1 s2 : En → Out} {ds : List D}, sIf (mBool (m2 ltD (mH (mN (mVar 12))) (mH (mN (mC (.int 0)))))) s1 s2 (eF a b c p q B r e ds c10 c11 (some (.int v))) = s1 (eF a b c p q B r e ds c10 c11 (some (.int v))) := fun {s1 s2 ds} => by simp [eF, eG, hv]
  rw [hT, seq_nx s1, s2 hz]
theorem rise_lt (h : FO a b c p q e0 e1) : -(2 ^ 60) < rise a b p q ∧ rise a b p q < 2 ^ 60 := by
  have b0 := h.b0
  have b1 := h.b1
  have a1 := h.a1
  have p0 := h.p0
  have p1 := h.p1
  have q1 := h.q1
  have yl := yr_le a b
  unfold rise
  rw [yr_div h.b0]
  have ga : a / Nat.gcd a b ≤ a := Nat.div_le_self _ _
  generalize a / Nat.gcd a b = x at *
  generalize yr a b = y at *
  have e1 : (y : Int) * p ≤ y * 100000 := Int.mul_le_mul_of_nonneg_left (by omega) (by omega)
  have e2 : (y : Int) * (-100000) ≤ y * p := Int.mul_le_mul_of_nonneg_left (by omega) (by omega)
  have e3 : (q : Int) * x ≤ 100000 * 1000 := Int.mul_le_mul (by omega) (by omega) (by omega) (by omega)
  have e4 : 0 ≤ (q : Int) * x := Int.mul_nonneg (by omega) (by omega)
  omega
theorem first_off_r (h : FO a b c p q e0 e1) : ∃ o, S_first_off [.f (.int (a : Int)), .f (.int (b : Int)), .f (.int (c : Int)), .f (qP p q), .f (qP (e0 : Int) e1)] = .ok (.f (oD o), []) ∧ IsL (Off a b c p q (bd q e0 e1)) o := by
  have y0 := yr_pos (a := a) h.b0
  have key : ∃ o e', m_first_off S_count (eG a b c (qP p q) (qP (e0 : Int) e1) none none none none none none none none) = .rt (.f (oD o)) e' ∧ IsL (Off a b c p q (bd q e0 e1)) o := by
    unfold m_first_off
    rw [seq_nx fo_s1, seq_nx (fo_s2 h), seq_nx (fo_s3 h), seq_nx (fo_s4 (fo_comp h))]
    have r1 : mEnum (mVar 9) (eF a b c p q (bd q e0 e1) (qP p q) (qP (e0 : Int) e1) ((List.range (yr a b)).map fun k => D.int (eo a b c p q k)) none none none) = .ok ((List.range' 0 (yr a b)).map fun (k : Nat) => D.tuple [.int (k : Int), .int (eo a b c p q k)], eF a b c p q (bd q e0 e1) (qP p q) (qP (e0 : Int) e1) ((List.range (yr a b)).map fun k => D.int (eo a b c p q k)) none none none) := by
      rw [← List.range_eq_range', ← en_range]
      simp [eF, eG]
    rcases fo_loop (a := a) (b := b) (c := c) (p := p) (q := q) (B := bd q e0 e1) (r := qP p q) (e := qP (e0 : Int) e1) (es := (List.range (yr a b)).map fun k => D.int (eo a b c p q k)) (c12 := none) (f := eo a b c p q) (yr a b) 0 none none with ⟨c10, c11, g1, g2⟩ | ⟨k, e', g1, g2, g3, g4, g5⟩
    · rw [seq_nx ((for_rD r1).trans g1), seq_nx (fo_s6 h)]
      have lt := rise_lt h
      have mm := eo_mod (a := a) (b := b) (c := c) (p := p) (q := q) h.b0
      have g2' : ∀ k, k < yr a b → -(bd q e0 e1) ≤ eo a b c p q k ∧ eo a b c p q k ≤ bd q e0 e1 := fun k hk => g2 k (Nat.zero_le _) (by omega)
      rcases Int.lt_trichotomy (rise a b p q) 0 with z | z | z
      · rw [seq_nx (fo_s7 (by omega)), seq_nx (fo_s8n h z)]
        obtain ⟨v, e', q1, q2, q3⟩ := fo_last h (B := bd q e0 e1) (r := qP p q) (e := qP (e0 : Int) e1) (f := fun k => -eo a b c p q k) (c10 := c10) (c11 := c11) (rise := -rise a b p q) (by omega) (by omega)
        obtain ⟨v0, v1⟩ := off_least (f := fun k => -eo a b c p q k) (B := bd q e0 e1) (r := -rise a b p q) (y := yr a b) (by omega) y0 (fun n => by
          have := mm n
          show -eo a b c p q n = -eo a b c p q (n % yr a b) + _ * -rise a b p q
          rw [this, Int.mul_neg]
          omega) (fun k hk => by have := g2' k hk; show _ ≤ -eo a b c p q k ∧ -eo a b c p q k ≤ _; omega) q2 q3
        refine ⟨some v.toNat, e', ?_, v1.congr fun n => ?_⟩
        · rw [q1]
          show Out.rt (.f (.int v)) e' = Out.rt (.f (.int (v.toNat : Int))) e'
          rw [Int.toNat_of_nonneg v0]
        · unfold Off
          rw [Int.neg_neg]
          exact Or.comm
      · rw [z, seq_rt fo_s7n]
        exact ⟨none, _, rfl, off_none y0 (fun n => by have := mm n; rw [z, Int.mul_zero, Int.add_zero] at this; exact this) g2'⟩
      · rw [seq_nx (fo_s7 (by omega)), seq_nx (fo_s8p z)]
        obtain ⟨v, e', q1, q2, q3⟩ := fo_last h (B := bd q e0 e1) (r := qP p q) (e := qP (e0 : Int) e1) (f := eo a b c p q) (c10 := c10) (c11 := c11) (rise := rise a b p q) z (by omega)
        obtain ⟨v0, v1⟩ := off_least (f := eo a b c p q) (B := bd q e0 e1) (r := rise a b p q) (y := yr a b) z y0 mm g2' q2 q3
        refine ⟨some v.toNat, e', ?_, v1⟩
        rw [q1]
        show Out.rt (.f (.int v)) e' = Out.rt (.f (.int (v.toNat : Int))) e'
        rw [Int.toNat_of_nonneg v0]
    · rw [seq_rt ((for_rD r1).trans g1)]
      refine ⟨some k, e', rfl, ?_, fun n hn q => ?_⟩
      · unfold Off
        omega
      · have := g5 n (Nat.zero_le _) hn
        unfold Off at q
        omega
  obtain ⟨off, e', key, ho⟩ := key
  refine ⟨off, spN_r rfl ?_, ho⟩
  rw [runD_r, show startE 13 [.f (.int (a : Int)), .f (.int (b : Int)), .f (.int (c : Int)), .f (qP p q), .f (qP (e0 : Int) e1)] = eG a b c (qP p q) (qP (e0 : Int) e1) none none none none none none none none from rfl, key]
  rfl
end
end Lk23

namespace Lk23
open PySem L2 DL PyProof.Rows Md Sh ShW ShN
/-! ### the law's own look at the drift -/
theorem red_parts {A B : Int} (hB : 0 < B) : ∃ d x y : Int, redI A B = (x, y) ∧ A = d * x ∧ B = d * y ∧ 0 < d ∧ 0 < y := by
  have hg : 0 < (Int.gcd A B : Int) := gcd_pos_r hB
  obtain ⟨x, hx⟩ := Int.gcd_dvd_left A B
  obtain ⟨y, hy⟩ := Int.gcd_dvd_right A B
  refine ⟨(Int.gcd A B : Int), A / (Int.gcd A B : Int), B / (Int.gcd A B : Int), rfl, ?_, ?_, hg, ?_⟩
  · rw [Int.mul_ediv_cancel' (Int.gcd_dvd_left A B)]
  · rw [Int.mul_ediv_cancel' (Int.gcd_dvd_right A B)]
  · exact Int.ediv_pos_of_pos_of_dvd hB (by omega) (Int.gcd_dvd_right A B)
theorem nat_mul_lt {i j : Int} {m n : Nat} (hi : i.natAbs < 2 ^ m) (hj : j.natAbs < 2 ^ n) : (i * j).natAbs < 2 ^ (m + n) := by
  rw [Int.natAbs_mul, Nat.pow_add]
  rcases Nat.eq_zero_or_pos j.natAbs with z | z
  · rw [z, Nat.mul_zero]
    exact Nat.mul_pos (Nat.two_pow_pos m) (Nat.two_pow_pos n)
  · exact Nat.lt_of_lt_of_le (Nat.mul_lt_mul_of_pos_right hi z) (Nat.mul_le_mul_left _ (Nat.le_of_lt hj))
instance {a b c : Nat} {p : Int} {q : Nat} {B : Int} {k : Nat} : Decidable (Off a b c p q B k) := inferInstanceAs (Decidable (B < eo a b c p q k ∨ B < - eo a b c p q k))
noncomputable def S_lproduct : Sf := spN 2 2 (m_law_product S_lratio)
theorem sem_lproduct : ∀ cs c outs, S_lproduct cs = .ok (c, outs) → cs.length = 2 ∧ runD 2 (m_law_product S_lratio) cs = .ok (c, outs) := spN_sem
theorem lproduct_r {x y z w : Int} (h1 : Bg x) (h2 : Bg y) (h3 : Bg z) (h4 : Bg w) (h5 : 0 < y * w) (h6 : y * w < 2 ^ 150) : S_lproduct [.f (.tuple [.int x, .int y]), .f (.tuple [.int z, .int w])] = .ok (.f (qD (redI (x * z) (y * w))), []) := spN_r rfl (by
  have w1 := mulD_i (bg_mul h1 h3)
  have w2 := mulD_i (bg_mul h2 h4)
  have k := lratio_r (a := x * z) h5 h6
  generalize x * z = u at *
  generalize y * w = v at *
  generalize qD (redI u v) = d at *
  simp [runD_r, startE, m_law_product, w1, w2, k])
structure Gp (p : Int) (q : Nat) (n cnt : Int) (x y g0 g1 : Int) : Prop where
  pr : S_lproduct [.f (qP p q), .f (.tuple [.int n, .int 1])] = .ok (.f (.tuple [.int x, .int y]), [])
  mi : S_lminus [.f (.tuple [.int x, .int y]), .f (.tuple [.int cnt, .int 1])] = .ok (.f (.tuple [.int g0, .int g1]), [])
  b0 : Bg g0
  b1 : Bg g1
  pos : 0 < g1
  eq : g0 * q = (n * p - q * cnt) * g1
theorem gap_ex {p : Int} {q : Nat} {n cnt : Int} (p0 : -100000 < p) (p1 : p < 100000) (q0 : 0 < q) (q1 : q < 100000) (n0 : -(2 ^ 40) < n) (n1 : n < 2 ^ 40) (c0 : -(2 ^ 60) < cnt) (c1 : cnt < 2 ^ 60) : ∃ x y g0 g1, Gp p q n cnt x y g0 g1 := by
  have hp : p.natAbs < 2 ^ 20 := by omega
  have hn : n.natAbs < 2 ^ 40 := by omega
  have hpn : (p * n).natAbs < 2 ^ 60 := nat_mul_lt hp hn
  have hq1 : (0 : Int) < (q : Int) * 1 := by omega
  obtain ⟨d, x, y, e1, e2, e3, e4, e5⟩ := red_parts (A := p * n) (B := (q : Int) * 1) hq1
  have k1 := lproduct_r (x := p) (y := (q : Int)) (z := n) (w := 1) (bg_small (by omega)) (bg_small (by omega)) (bg_small (by omega)) (bg_small (by decide)) hq1 (by omega)
  rw [e1] at k1
  have hx : x.natAbs < 2 ^ 60 := by
    have : x.natAbs ≤ (p * n).natAbs := by
      rw [e2, Int.natAbs_mul]
      exact Nat.le_mul_of_pos_left _ (by omega)
    omega
  have hy : y ≤ q := by
    have h1 : 1 * y ≤ d * y := Int.mul_le_mul_of_nonneg_right (by omega) (by omega)
    omega
  have hy' : y.natAbs < 2 ^ 60 := by omega
  have hcy : (cnt * y).natAbs < 2 ^ 120 := nat_mul_lt (m := 60) (n := 60) (by omega) hy'
  obtain ⟨g, g0, g1, f1, f2, f3, f4, f5⟩ := red_parts (A := x * 1 - cnt * y) (B := y * 1) (by omega)
  have k2 : S_lminus [.f (.tuple [.int x, .int y]), .f (.tuple [.int cnt, .int 1])] = .ok (.f (qD (redI (x * 1 - cnt * y) (y * 1))), []) := if_pos ⟨by omega, by omega, bg_small (by omega), bg_small (by omega), bg_small (by omega), bg_small (by decide)⟩
  rw [f1] at k2
  have bb := red_bg (a := x * 1 - cnt * y) (b := y * 1) (bg_le (n := 200) (by omega) (by decide)) (bg_small (by omega))
  rw [f1] at bb
  refine ⟨x, y, g0, g1, k1, k2, bb.1, bb.2, f5, ?_⟩
  have e3' : (q : Int) = d * y := by omega
  have f2' : x - cnt * y = g * g0 := by omega
  have f3' : y = g * g1 := by omega
  have l1 : g0 * (q : Int) = d * (g * g0) * g1 := by
    rw [e3', f3']
    ac_rfl
  have l2 : (n * p - q * cnt) * g1 = d * (g * g0) * g1 := by
    rw [← f2', Int.mul_sub, ← e2, Int.mul_comm n p, Int.mul_comm cnt y, ← Int.mul_assoc, ← e3']
  rw [l1, l2]
theorem Gp.test {p : Int} {q : Nat} {n cnt x y g0 g1 : Int} (h : Gp p q n cnt x y g0 g1) (hq : 0 < q) {e0 e1 : Nat} (h1 : 0 < e1) : ((e0 : Int) * g1 < (if g0 < 0 then -g0 else g0) * e1) ↔ (bd q e0 e1 < n * p - q * cnt ∨ bd q e0 e1 < - (n * p - q * cnt)) := by
  have heq := h.eq
  have hp := h.pos
  unfold bd
  rw [Int.ediv_lt_iff_lt_mul (by omega), Int.ediv_lt_iff_lt_mul (by omega)]
  generalize n * p - q * cnt = z at *
  have e : ∀ t : Int, t * q = z * g1 → (((e0 : Int) * g1 < t * e1) ↔ (e0 : Int) * q < z * e1) := fun t ht => by
    have l : (t * e1) * q = (z * e1) * g1 := by
      rw [Int.mul_right_comm, ht, Int.mul_right_comm]
    have l2 : (e0 : Int) * g1 * q = (e0 : Int) * q * g1 := Int.mul_right_comm _ _ _
    constructor
    · intro a
      have := Int.mul_lt_mul_of_pos_right a (show (0 : Int) < q by omega)
      rw [l, l2] at this
      exact Int.lt_of_mul_lt_mul_right this (by omega)
    · intro a
      have := Int.mul_lt_mul_of_pos_right a hp
      rw [← l, ← l2] at this
      exact Int.lt_of_mul_lt_mul_right this (by omega)
  have en : ∀ t : Int, t * q = z * g1 → (((e0 : Int) * g1 < -t * e1) ↔ (e0 : Int) * q < -z * e1) := fun t ht => by
    have l : (-t * e1) * q = (-z * e1) * g1 := by
      simp only [Int.neg_mul]
      rw [Int.mul_right_comm, ht, Int.mul_right_comm z]
    have l2 : (e0 : Int) * g1 * q = (e0 : Int) * q * g1 := Int.mul_right_comm _ _ _
    constructor
    · intro a
      have := Int.mul_lt_mul_of_pos_right a (show (0 : Int) < q by omega)
      rw [l, l2] at this
      exact Int.lt_of_mul_lt_mul_right this (by omega)
    · intro a
      have := Int.mul_lt_mul_of_pos_right a hp
      rw [← l, ← l2] at this
      exact Int.lt_of_mul_lt_mul_right this (by omega)
  have hE : (0 : Int) ≤ (e0 : Int) * q := Int.mul_nonneg (by omega) (by omega)
  split
  · rename_i hg
    have zn : z ≤ 0 := by
      rcases Int.lt_or_le 0 z with q1 | q1
      · have := Int.mul_pos q1 hp
        have := Int.mul_neg_of_neg_of_pos hg (show (0 : Int) < q by omega)
        omega
      · exact q1
    rw [en g0 heq]
    have : z * (e1 : Int) ≤ 0 := Int.mul_nonpos_of_nonpos_of_nonneg zn (by omega)
    constructor
    · exact .inr
    · rintro (a | a)
      · omega
      · exact a
  · rename_i hg
    have zn : 0 ≤ z := by
      rcases Int.lt_or_le z 0 with q1 | q1
      · have := Int.mul_neg_of_neg_of_pos q1 hp
        have : 0 ≤ g0 * (q : Int) := Int.mul_nonneg (by omega) (by omega)
        omega
      · exact q1
    rw [e g0 heq]
    have : 0 ≤ z * (e1 : Int) := Int.mul_nonneg zn (by omega)
    have l : -z * (e1 : Int) = -(z * e1) := Int.neg_mul _ _
    constructor
    · exact .inl
    · rintro (a | a)
      · exact a
      · omega
theorem Gp.less {p : Int} {q : Nat} {n cnt x y g0 g1 : Int} (h : Gp p q n cnt x y g0 g1) (hq : 0 < q) {e0 e1 : Nat} (h1 : 0 < e1) (h0 : e0 < 10000) (h2 : e1 < 10000) : S_less [.f (qP (e0 : Int) e1), .f (.tuple [.int (if g0 < 0 then -g0 else g0), .int g1])] = .ok (.f (.bool (decide (bd q e0 e1 < n * p - q * cnt ∨ bd q e0 e1 < - (n * p - q * cnt)))), []) := by
  have bb : Bg (if g0 < 0 then -g0 else g0) := by
    have := h.b0
    unfold Bg at *
    split <;> omega
  have k : S_less [.f (qP (e0 : Int) e1), .f (.tuple [.int (if g0 < 0 then -g0 else g0), .int g1])] = .ok (.f (.bool (decide ((e0 : Int) * g1 < (if g0 < 0 then -g0 else g0) * e1))), []) := if_pos ⟨bg_small (by omega), bg_small (by omega), bb, h.b1⟩
  rw [k]
  congr 4
  exact decide_eq_decide.mpr (h.test hq h1)
/-- the days counted -/
theorem cnt_lt {a b c : Nat} {n : Int} (hb : 0 < b) (ha : a < 1000) (hc : c < 1000) (n0 : -(2 ^ 40) < n) (n1 : n < 2 ^ 40) : -(2 ^ 60) < ((a : Int) * n + c) / b ∧ ((a : Int) * n + c) / b < 2 ^ 60 := by
  have h1 : (a : Int) * n ≤ a * 2 ^ 40 := Int.mul_le_mul_of_nonneg_left (by omega) (by omega)
  have h2 : (a : Int) * (-(2 ^ 40)) ≤ a * n := Int.mul_le_mul_of_nonneg_left (by omega) (by omega)
  have hn : (((a : Int) * n + c) / b).natAbs ≤ ((a : Int) * n + c).natAbs := Int.natAbs_ediv_le_natAbs _ _
  omega
noncomputable def S_law_off : Sf := spN 6 8 (m_law_off S_lminus S_lproduct S_less)
theorem sem_law_off : ∀ cs c outs, S_law_off cs = .ok (c, outs) → cs.length = 6 ∧ runD 8 (m_law_off S_lminus S_lproduct S_less) cs = .ok (c, outs) := spN_sem
def eL (a b c : Nat) (p : Int) (q e0 e1 : Nat) (lim : D) (c6 c7 : Option D) : En := [some (.f (.int (a : Int))), some (.f (.int (b : Int))), some (.f (.int (c : Int))), some (.f (qP p q)), some (.f (qP (e0 : Int) e1)), some (.f lim), c6.map .f, c7.map .f]
theorem off_st {A B C k cnt g0 g1 w ag : Int} {r e lim dxy : D} {c7 : Option D} {t : Bool} (w1 : mulD (.int A) (.int k) = .ok (.f (.int w))) (d1 : fdivD (.int (w + C)) (.int B) = .ok (.f (.int cnt))) (s1 : S_lproduct [.f r, .f (.tuple [.int k, .int 1])] = .ok (.f dxy, [])) (s2 : S_lminus [.f dxy, .f (.tuple [.int cnt, .int 1])] = .ok (.f (.tuple [.int g0, .int g1]), [])) (ha : (if g0 < 0 then -g0 else g0) = ag) (s3 : S_less [.f e, .f (.tuple [.int ag, .int g1])] = .ok (.f (.bool t), [])) :
    m_law_off_b1 S_lminus S_lproduct S_less [some (.f (.int A)), some (.f (.int B)), some (.f (.int C)), some (.f r), some (.f e), some (.f lim), some (.f (.int k)), c7.map .f] = if t = true then .rt (.f (.int k)) [some (.f (.int A)), some (.f (.int B)), some (.f (.int C)), some (.f r), some (.f e), some (.f lim), some (.f (.int k)), some (.f (.tuple [.int g0, .int g1]))] else .nx [some (.f (.int A)), some (.f (.int B)), some (.f (.int C)), some (.f r), some (.f e), some (.f lim), some (.f (.int k)), some (.f (.tuple [.int g0, .int g1]))] := by
  cases t <;> cases c7 <;> simp [m_law_off_b1, w1, d1, s1, s2, ha, s3]
section
variable {a b c : Nat} {p : Int} {q e0 e1 : Nat} {lim : D}
theorem off_body (h : FO a b c p q e0 e1) {k : Nat} (hk : k < 1000) (c7 : Option D) : ∃ d, m_law_off_b1 S_lminus S_lproduct S_less (eL a b c p q e0 e1 lim (some (.int (k : Int))) c7) = if decide (Off a b c p q (bd q e0 e1) k) = true then .rt (.f (.int (k : Int))) (eL a b c p q e0 e1 lim (some (.int (k : Int))) (some d)) else .nx (eL a b c p q e0 e1 lim (some (.int (k : Int))) (some d)) := by
  have b0 := h.b0
  have b1 := h.b1
  have a1 := h.a1
  have c1 := h.c1
  obtain ⟨l1, l2⟩ := cnt_lt (a := a) (b := b) (c := c) (n := (k : Int)) b0 a1 c1 (by omega) (by omega)
  obtain ⟨x, y, g0, g1, G⟩ := gap_ex (p := p) (q := q) (n := (k : Int)) (cnt := ((a : Int) * (k : Int) + c) / b) h.p0 h.p1 h.q0 h.q1 (by omega) (by omega) l1 l2
  have w1 := mulD_i (show MulOk (a : Int) (k : Int) from mulOk_r' (by omega) (by omega))
  have d1 := fdivD_i (i := (a : Int) * (k : Int) + c) (divS (b := (b : Int)) (by omega) (by omega))
  exact ⟨_, off_st w1 d1 G.pr G.mi rfl (G.less h.q0 h.h1 h.h0 h.h2)⟩
theorem law_off_r (h : FO a b c p q e0 e1) {m : Nat} (hm : m < 1000) : ∃ o : Option Nat, S_law_off [.f (.int (a : Int)), .f (.int (b : Int)), .f (.int (c : Int)), .f (qP p q), .f (qP (e0 : Int) e1), .f (.int (m : Int))] = .ok (.f (oD o), []) ∧ match o with
    | none => ∀ n, n < m → ¬ Off a b c p q (bd q e0 e1) n
    | some k => k < m ∧ Off a b c p q (bd q e0 e1) k ∧ ∀ n, n < k → ¬ Off a b c p q (bd q e0 e1) n := by
  have r1 : mRng1 (aCons (mVar 5) aNil) (eL a b c p q e0 e1 (.int (m : Int)) none none) = .ok (rgD 0 m, eL a b c p q e0 e1 (.int (m : Int)) none none) := by
    have k := rng1_r (ma := aCons (mVar 5) aNil) (e := eL a b c p q e0 e1 (.int (m : Int)) none none) (e' := eL a b c p q e0 e1 (.int (m : Int)) none none) (n := (m : Int)) (by simp [eL]) (by omega) (by omega)
    rwa [Int.toNat_natCast] at k
  have key : ∃ (o : Option Nat) (e' : En), m_law_off S_lminus S_lproduct S_less (eL a b c p q e0 e1 (.int (m : Int)) none none) = .rt (.f (oD o)) e' ∧ match o with
    | none => ∀ n, n < m → ¬ Off a b c p q (bd q e0 e1) n
    | some k => k < m ∧ Off a b c p q (bd q e0 e1) k ∧ ∀ n, n < k → ¬ Off a b c p q (bd q e0 e1) n := by
    unfold m_law_off
    rcases loop_first (i := 6) (b := m_law_off_b1 S_lminus S_lproduct S_less) (n := m) (lo0 := 0) (P := fun k => decide (Off a b c p q (bd q e0 e1) k)) (fun e => ∃ c6 c7, e = eL a b c p q e0 e1 (.int (m : Int)) c6 c7) (fun k => .f (.int (k : Int))) (fun k e _ hk ⟨c6, c7, he⟩ => by
      subst he
      refine ⟨eL a b c p q e0 e1 (.int (m : Int)) (some (.int (k : Int))) c7, tgN_f (a := c6) rfl, ?_⟩
      obtain ⟨d, g⟩ := off_body (lim := .int (m : Int)) h (k := k) (by omega) c7
      by_cases ho : Off a b c p q (bd q e0 e1) k
      · rw [decide_eq_true ho, if_pos rfl] at g
        exact .inr ⟨decide_eq_true ho, _, g⟩
      · rw [decide_eq_false ho, if_neg (by decide)] at g
        exact .inl ⟨decide_eq_false ho, _, g, _, _, rfl⟩) m 0 (by omega) (Nat.le_refl _) (eL a b c p q e0 e1 (.int (m : Int)) none none) ⟨none, none, rfl⟩ with ⟨e', g1, ⟨c6, c7, rfl⟩, g3⟩ | ⟨k, e', g1, g2, g3, g4, g5⟩
    · rw [seq_nx ((for_rD r1).trans g1)]
      exact ⟨none, eL a b c p q e0 e1 (.int (m : Int)) c6 c7, by simp [eL, oD], fun n hn q => by have := of_decide_eq_false (g3 n (Nat.zero_le _) hn); exact this q⟩
    · rw [seq_rt ((for_rD r1).trans g1)]
      exact ⟨some k, e', rfl, g3, of_decide_eq_true g4, fun n hn q => by have := of_decide_eq_false (g5 n (Nat.zero_le _) hn); exact this q⟩
  obtain ⟨o, e', key, ho⟩ := key
  refine ⟨o, spN_r rfl ?_, ho⟩
  rw [runD_r, show startE 8 [.f (.int (a : Int)), .f (.int (b : Int)), .f (.int (c : Int)), .f (qP p q), .f (qP (e0 : Int) e1), .f (.int (m : Int))] = eL a b c p q e0 e1 (.int (m : Int)) none none from rfl, key]
  rfl
end
end Lk23

namespace Lk23
/-! ### plain facts: the first multiple in a span -/
def InS (a m lo hi : Int) (n : Nat) : Prop := lo ≤ ((n : Int) * a) % m ∧ ((n : Int) * a) % m ≤ hi
/-- divided, upwards -/
def ceil (x a : Int) : Int := -((-x) / a)
theorem ceil_lo {x a : Int} (ha : 0 < a) : x ≤ ceil x a * a := by
  unfold ceil
  have h1 := Int.ediv_mul_le (-x) (show a ≠ 0 by omega)
  rw [Int.neg_mul]
  omega
theorem ceil_hi {x a : Int} (ha : 0 < a) : (ceil x a - 1) * a < x := by
  unfold ceil
  have h1 := Int.lt_ediv_add_one_mul_self (-x) ha
  rw [Int.sub_mul, Int.neg_mul]
  rw [Int.add_mul] at h1
  omega
theorem ceil_is {x a n : Int} (ha : 0 < a) (h1 : x ≤ n * a) (h2 : (n - 1) * a < x) : ceil x a = n := by
  have h3 := ceil_lo (x := x) ha
  have h4 := ceil_hi (x := x) ha
  have h5 : (ceil x a - 1) * a < n * a := by omega
  have h6 : (n - 1) * a < ceil x a * a := by omega
  have h7 := Int.lt_of_mul_lt_mul_right h5 (by omega)
  have h8 := Int.lt_of_mul_lt_mul_right h6 (by omega)
  omega
theorem ceil_nn {x a : Int} (ha : 0 < a) (hx : 0 ≤ x) : 0 ≤ ceil x a := by
  rcases Int.lt_or_le (ceil x a) 0 with z | z
  · have h3 := ceil_lo (x := x) ha
    have := Int.mul_neg_of_neg_of_pos z ha
    omega
  · exact z
/-- a multiple lies in the span -/
theorem in_hit {a m lo hi : Int} (ha : 0 < a) (h0 : 0 < lo) (h2 : hi < m) (hc : ceil lo a * a ≤ hi) : IsL (InS a m lo hi) (some (ceil lo a).toNat) := by
  have c0 := ceil_nn ha (show 0 ≤ lo by omega)
  have c1 := ceil_lo (x := lo) ha
  have c2 := ceil_hi (x := lo) ha
  refine ⟨?_, fun n hn q => ?_⟩
  · unfold InS
    rw [Int.toNat_of_nonneg c0, Int.emod_eq_of_lt (by omega) (by omega)]
    exact ⟨c1, hc⟩
  · unfold InS at q
    have hn' : (n : Int) ≤ ceil lo a - 1 := by omega
    have h3 : (n : Int) * a ≤ (ceil lo a - 1) * a := Int.mul_le_mul_of_nonneg_right hn' (by omega)
    have h4 : 0 ≤ (n : Int) * a := Int.mul_nonneg (by omega) (by omega)
    rw [Int.emod_eq_of_lt (by omega) (by omega)] at q
    omega
theorem in_zero {m lo hi : Int} (h0 : 0 < lo) : IsL (InS 0 m lo hi) none := fun n q => by
  unfold InS at q
  rw [Int.mul_zero, Int.zero_emod] at q
  omega
theorem in_mod (a m lo hi : Int) (n : Nat) : InS (a % m) m lo hi n ↔ InS a m lo hi n := by
  unfold InS
  rw [Int.mul_emod, Int.emod_emod_of_dvd _ (Int.dvd_refl m), ← Int.mul_emod]
theorem in_flip {a m lo hi : Int} (h0 : 0 < lo) (h1 : lo ≤ hi) (h2 : hi < m) (n : Nat) : InS (m - a) m (m - hi) (m - lo) n ↔ InS a m lo hi n := by
  unfold InS
  have e : ((n : Int) * (m - a)) % m = (-((n : Int) * a)) % m := by
    rw [Int.mul_sub, Int.sub_eq_add_neg, Int.add_comm, Int.add_mul_emod_self_right]
  rw [e]
  have hm : 0 < m := by omega
  have r0 := Int.emod_nonneg ((n : Int) * a) (show m ≠ 0 by omega)
  have r1 := Int.emod_lt_of_pos ((n : Int) * a) hm
  have hd := Int.mul_ediv_add_emod ((n : Int) * a) m
  rcases Int.lt_or_le 0 (((n : Int) * a) % m) with z | z
  · have e2 : (-((n : Int) * a)) % m = m - ((n : Int) * a) % m := by
      have : -((n : Int) * a) = (m - ((n : Int) * a) % m) + m * (-(((n : Int) * a) / m) - 1) := by
        rw [Int.mul_sub, Int.mul_neg]
        omega
      rw [this, Int.add_mul_emod_self_left, Int.emod_eq_of_lt (by omega) (by omega)]
    rw [e2]
    omega
  · have z0 : ((n : Int) * a) % m = 0 := by omega
    have e2 : (-((n : Int) * a)) % m = 0 := by
      have : -((n : Int) * a) = 0 + m * (-(((n : Int) * a) / m)) := by
        rw [Int.mul_neg]
        omega
      rw [this, Int.add_mul_emod_self_left, Int.zero_emod]
    rw [e2, z0]
    omega
/-- no multiple lies in the span: the same question, smaller -/
structure Down (a m lo hi : Int) : Prop where
  a0 : 0 < a
  am : a < m
  l0 : 0 < lo
  lh : lo ≤ hi
  hm : hi < m
  no : hi < ceil lo a * a
theorem Down.parts {a m lo hi : Int} (h : Down a m lo hi) : lo % a = lo - (ceil lo a - 1) * a ∧ hi % a = hi - (ceil lo a - 1) * a ∧ 0 < lo % a ∧ lo % a ≤ hi % a ∧ hi % a < a := by
  have c1 := ceil_lo (x := lo) h.a0
  have c2 := ceil_hi (x := lo) h.a0
  have := h.a0
  have := h.lh
  have hn := h.no
  have e : ceil lo a * a = (ceil lo a - 1) * a + a := by rw [Int.sub_mul]; omega
  have e1 : lo % a = lo - (ceil lo a - 1) * a := by
    have : lo = (lo - (ceil lo a - 1) * a) + (ceil lo a - 1) * a := by omega
    conv => lhs; rw [this]
    rw [Int.add_mul_emod_self_right, Int.emod_eq_of_lt (by omega) (by omega)]
  have e2 : hi % a = hi - (ceil lo a - 1) * a := by
    have : hi = (hi - (ceil lo a - 1) * a) + (ceil lo a - 1) * a := by omega
    conv => lhs; rw [this]
    rw [Int.add_mul_emod_self_right, Int.emod_eq_of_lt (by omega) (by omega)]
  rw [e1, e2]
  omega
/-- what stands at j below -/
theorem down_rest {a m : Int} (j : Nat) : ((j : Int) * (-m % a)) % a = (-(m * j)) % a := by
  rw [Int.mul_emod, Int.emod_emod_of_dvd _ (Int.dvd_refl a), ← Int.mul_emod, Int.mul_neg, Int.mul_comm]
theorem Down.below {a m lo hi : Int} (h : Down a m lo hi) {n : Nat} (q : InS a m lo hi n) : ∃ j : Nat, InS (-m % a) a (lo % a) (hi % a) j ∧ lo + m * j ≤ n * a := by
  obtain ⟨e1, e2, _, _, _⟩ := h.parts
  have c2 := ceil_hi (x := lo) h.a0
  have hno := h.no
  have ha := h.a0
  have hm : 0 < m := by have := h.am; omega
  unfold InS at q
  have hd := Int.mul_ediv_add_emod ((n : Int) * a) m
  have hj : 0 ≤ ((n : Int) * a) / m := Int.ediv_nonneg (Int.mul_nonneg (by omega) (by omega)) (by omega)
  refine ⟨(((n : Int) * a) / m).toNat, ?_, ?_⟩
  · unfold InS
    rw [down_rest, Int.toNat_of_nonneg hj, e1, e2]
    have e : ceil lo a * a = (ceil lo a - 1) * a + a := by rw [Int.sub_mul]; omega
    have : -(m * ((n : Int) * a / m)) = (((n : Int) * a) % m - (ceil lo a - 1) * a) + ((ceil lo a - 1) - n) * a := by
      rw [Int.sub_mul _ (n : Int) a]
      omega
    rw [this, Int.add_mul_emod_self_right, Int.emod_eq_of_lt (by omega) (by omega)]
    omega
  · rw [Int.toNat_of_nonneg hj]
    omega
theorem Down.above {a m lo hi : Int} (h : Down a m lo hi) {j : Nat} (q : InS (-m % a) a (lo % a) (hi % a) j) : 0 ≤ ceil (lo + m * j) a ∧ InS a m lo hi (ceil (lo + m * j) a).toNat := by
  obtain ⟨e1, e2, p1, p2, p3⟩ := h.parts
  have ha := h.a0
  have hl := h.l0
  have hhm := h.hm
  have hm : 0 < m := by have := h.am; omega
  unfold InS at q
  rw [down_rest, e1, e2] at q
  have hd := Int.mul_ediv_add_emod (-(m * j)) a
  have hmj : 0 ≤ m * (j : Int) := Int.mul_nonneg (by omega) (by omega)
  generalize hr : (-(m * (j : Int))) % a = r at *
  generalize (-(m * (j : Int))) / a = t at *
  -- n a = r + (c - 1) a + m j
  have hc : ceil (lo + m * j) a = (ceil lo a - 1) - t := by
    refine ceil_is ha ?_ ?_
    · rw [Int.sub_mul, Int.mul_comm t a]
      omega
    · have hno := h.no
      have e : ceil lo a * a = (ceil lo a - 1) * a + a := by rw [Int.sub_mul]; omega
      rw [Int.sub_mul, Int.sub_mul _ t a, Int.mul_comm t a]
      omega
  have h0 := ceil_nn ha (show 0 ≤ lo + m * j by omega)
  refine ⟨h0, ?_⟩
  unfold InS
  rw [Int.toNat_of_nonneg h0, hc]
  have e : ((ceil lo a - 1) - t) * a = (r + (ceil lo a - 1) * a) + m * j := by
    rw [Int.sub_mul, Int.mul_comm t a]
    omega
  rw [e, Int.add_mul_emod_self_left, Int.emod_eq_of_lt (by omega) (by omega)]
  omega
theorem Down.none {a m lo hi : Int} (h : Down a m lo hi) (q : IsL (InS (-m % a) a (lo % a) (hi % a)) none) : IsL (InS a m lo hi) none := fun n hn => by
  obtain ⟨j, hj, _⟩ := h.below hn
  exact q j hj
theorem Down.some {a m lo hi : Int} (h : Down a m lo hi) {j : Nat} (q : IsL (InS (-m % a) a (lo % a) (hi % a)) (some j)) : 0 ≤ ceil (lo + m * j) a ∧ IsL (InS a m lo hi) (some (ceil (lo + m * j) a).toNat) := by
  obtain ⟨h0, h1⟩ := h.above q.1
  refine ⟨h0, h1, fun n hn hi' => ?_⟩
  obtain ⟨j', hj, hle⟩ := h.below hi'
  have hm : 0 < m := by have := h.am; have := h.a0; omega
  have : j ≤ j' := by
    rcases Nat.lt_or_ge j' j with z | z
    · exact (q.2 j' z hj).elim
    · exact z
  have h2 : m * (j : Int) ≤ m * j' := Int.mul_le_mul_of_nonneg_left (by omega) (by omega)
  have c2 := ceil_hi (x := lo + m * j) h.a0
  have h3 : (ceil (lo + m * j) a - 1) * a < n * a := by omega
  have := Int.lt_of_mul_lt_mul_right h3 (by have := h.a0; omega)
  omega
/-- the least one is within a round -/
theorem in_lt {a m lo hi : Int} {n : Nat} (hm : 0 < m) (h : IsL (InS a m lo hi) (some n)) : (n : Int) < m := by
  rcases Int.lt_or_le (n : Int) m with z | z
  · exact z
  · exfalso
    refine h.2 (n - m.toNat) (by omega) ?_
    have := h.1
    unfold InS at *
    have e : ((n - m.toNat : Nat) : Int) * a = (n : Int) * a + m * (-a) := by
      have : ((n - m.toNat : Nat) : Int) = n - m := by omega
      rw [this, Int.sub_mul, Int.mul_neg]
      omega
    rw [e, Int.add_mul_emod_self_left]
    exact this
end Lk23
namespace Lk23
open PySem L2 DL PyProof.Rows Md Sh ShW ShN
/-! ### first_in -/
noncomputable def S_first_in : Sf := spN 4 9 m_first_in
theorem sem_first_in : ∀ cs c outs, S_first_in cs = .ok (c, outs) → cs.length = 4 ∧ runD 9 m_first_in cs = .ok (c, outs) := spN_sem
def eI (a m lo hi : Int) (asked : List D) (c5 : Option D) : En := [some (.f (.int a)), some (.f (.int m)), some (.f (.int lo)), some (.f (.int hi)), some (.l false asked), c5.map .f, none, none, none]
def trD (x : Int × Int × Int) : D := .tuple [.int x.1, .int x.2.1, .int x.2.2]
/-- small enough to be reckoned with -/
def Bd (i : Int) : Prop := 0 ≤ i ∧ i < 2 ^ 160
theorem bd_bg {i : Int} (h : Bd i) : Bg i := bg_le (n := 160) (by have := h.1; have := h.2; omega) (by decide)
theorem bd_mul {i j : Int} (h : Bd i) (h2 : Bd j) : MulOk i j := bg_mul (bd_bg h) (bd_bg h2)
theorem bd_div {j : Int} (h : Bd j) (h0 : 0 < j) : DivOk j := divOk_of (n := 160) h0 h.2 (by decide)
section
variable {a m lo hi : Int} {asked : List D} {c5 : Option D}
theorem w_zero : m_first_in_w1 (eI 0 m lo hi asked c5) = .rt (.f .none) (eI 0 m lo hi asked c5) := by
  simp [m_first_in_w1, eI]
theorem w_one {t : En → Out} (h : a ≠ 0) : sSeq (sIf (mBool (m2 eqD (mH (mN (mVar 0))) (mH (mN (mC (.int 0)))))) (sRet (mN (mC .none))) sNext) t (eI a m lo hi asked c5) = t (eI a m lo hi asked c5) := by
  simp [eI, h]
theorem w_flip {t : En → Out} (h : m < 2 * a) : sSeq (sIf (mBool (m2 gtD (mH (m2 mulD (mH (mN (mC (.int 2)))) (mH (mN (mVar 0))))) (mH (mN (mVar 1))))) (sPar3 0 2 3 (aCons (mZ (m2 subD (mH (mN (mVar 1))) (mH (mN (mVar 0))))) (aCons (mZ (m2 subD (mH (mN (mVar 1))) (mH (mN (mVar 3))))) (aCons (mZ (m2 subD (mH (mN (mVar 1))) (mH (mN (mVar 2))))) aNil)))) sNext) t (eI a m lo hi asked c5) = t (eI (m - a) m (m - hi) (m - lo) asked c5) := by
  have w := mulD_i (show MulOk 2 a from mulOk_l (by decide) (by decide))
  simp [eI, w, h]
theorem w_flat {t : En → Out} (h : ¬ m < 2 * a) : sSeq (sIf (mBool (m2 gtD (mH (m2 mulD (mH (mN (mC (.int 2)))) (mH (mN (mVar 0))))) (mH (mN (mVar 1))))) (sPar3 0 2 3 (aCons (mZ (m2 subD (mH (mN (mVar 1))) (mH (mN (mVar 0))))) (aCons (mZ (m2 subD (mH (mN (mVar 1))) (mH (mN (mVar 3))))) (aCons (mZ (m2 subD (mH (mN (mVar 1))) (mH (mN (mVar 2))))) aNil)))) sNext) t (eI a m lo hi asked c5) = t (eI a m lo hi asked c5) := by
  have w := mulD_i (show MulOk 2 a from mulOk_l (by decide) (by decide))
  simp [eI, w, h]
theorem w_n {t : En → Out} (h : Bd a) (h0 : 0 < a) : sSeq (sAsgF 5 (mZ (m1 negD (mH (m2 fdivD (mH (m1 negD (mH (mN (mVar 2))))) (mH (mN (mVar 0)))))))) t (eI a m lo hi asked c5) = t (eI a m lo hi asked (some (.int (ceil lo a)))) := by
  have d := fdivD_i (i := -lo) (bd_div h h0)
  unfold ceil
  generalize -lo / a = x at *
  cases c5 <;> simp [eI, d]
theorem w_hit {t : En → Out} {n w : Int} (hw : mulD (.int n) (.int a) = .ok (.f (.int w))) (h : w ≤ hi) : sSeq (sIf (mBool (m2 leD (mH (m2 mulD (mH (mN (mVar 5))) (mH (mN (mVar 0))))) (mH (mN (mVar 3))))) sBreak sNext) t (eI a m lo hi asked (some (.int n))) = .bk (eI a m lo hi asked (some (.int n))) := by
  simp [eI, hw, h]
theorem w_no {t : En → Out} {n w : Int} (hw : mulD (.int n) (.int a) = .ok (.f (.int w))) (h : ¬ w ≤ hi) : sSeq (sIf (mBool (m2 leD (mH (m2 mulD (mH (mN (mVar 5))) (mH (mN (mVar 0))))) (mH (mN (mVar 3))))) sBreak sNext) t (eI a m lo hi asked (some (.int n))) = t (eI a m lo hi asked (some (.int n))) := by
  simp [eI, hw, h]
theorem w_down {n : Int} (h0 : 0 < a) (hl : asked.length < 16000000) : sSeq (sApp 4 (mTup (aCons (mVar 0) (aCons (mVar 1) (aCons (mVar 2) aNil))))) (sTgt (tgT [(tgN 0), (tgN 1), (tgN 2), (tgN 3)]) (mTup (aCons (mZ (m2 modD (mH (m1 negD (mH (mN (mVar 1))))) (mH (mN (mVar 0))))) (aCons (mVar 0) (aCons (mZ (m2 modD (mH (mN (mVar 2))) (mH (mN (mVar 0))))) (aCons (mZ (m2 modD (mH (mN (mVar 3))) (mH (mN (mVar 0))))) aNil)))))) (eI a m lo hi asked (some (.int n))) = .nx (eI (-m % a) a (lo % a) (hi % a) (asked ++ [trD (a, m, lo)]) (some (.int n))) := by
  have d1 := modD_i (i := -m) h0
  have d2 := modD_i (i := lo) h0
  have d3 := modD_i (i := hi) h0
  generalize -m % a = x1 at *
  generalize lo % a = x2 at *
  generalize hi % a = x3 at *
  simp [eI, trD, hl, d1, d2, d3]
theorem t_yes (h : 0 < lo) : m_first_in_t1 (eI a m lo hi asked c5) = .ok (true, eI a m lo hi asked c5) := by
  simp [m_first_in_t1, eI, h]
theorem t_no : m_first_in_t1 (eI a m 0 hi asked c5) = .ok (false, eI a m 0 hi asked c5) := by
  simp [m_first_in_t1, eI]
end
noncomputable def w1R : En → Out := (sSeq (sAsgF 5 (mZ (m1 negD (mH (m2 fdivD (mH (m1 negD (mH (mN (mVar 2))))) (mH (mN (mVar 0)))))))) (sSeq (sIf (mBool (m2 leD (mH (m2 mulD (mH (mN (mVar 5))) (mH (mN (mVar 0))))) (mH (mN (mVar 3))))) sBreak sNext) (sSeq (sApp 4 (mTup (aCons (mVar 0) (aCons (mVar 1) (aCons (mVar 2) aNil))))) (sTgt (tgT [(tgN 0), (tgN 1), (tgN 2), (tgN 3)]) (mTup (aCons (mZ (m2 modD (mH (m1 negD (mH (mN (mVar 1))))) (mH (mN (mVar 0))))) (aCons (mVar 0) (aCons (mZ (m2 modD (mH (mN (mVar 2))) (mH (mN (mVar 0))))) (aCons (mZ (m2 modD (mH (mN (mVar 3))) (mH (mN (mVar 0))))) aNil)))))))))
theorem w1_flip {a m lo hi : Int} {asked : List D} {c5 : Option D} (h0 : a ≠ 0) (h : m < 2 * a) : m_first_in_w1 (eI a m lo hi asked c5) = w1R (eI (m - a) m (m - hi) (m - lo) asked c5) := by
  unfold m_first_in_w1
  rw [w_one h0, w_flip h]
  rfl
theorem w1_flat {a m lo hi : Int} {asked : List D} {c5 : Option D} (h0 : a ≠ 0) (h : ¬ m < 2 * a) : m_first_in_w1 (eI a m lo hi asked c5) = w1R (eI a m lo hi asked c5) := by
  unfold m_first_in_w1
  rw [w_one h0, w_flat h]
  rfl
/-- what is told behind: the row taken back -/
def un (x : Int × Int × Int) (n : Int) : Int := ceil (x.2.2 + x.2.1 * n) x.1
def Good : List (Int × Int × Int) → Int → Prop
  | [], n => Bd n
  | x :: xs, n => Good xs n ∧ 0 < x.1 ∧ Bd x.1 ∧ Bd x.2.1 ∧ Bd (un x (xs.foldr un n))
theorem Good.bd : ∀ {xs : List (Int × Int × Int)} {n : Int}, Good xs n → Bd (xs.foldr un n)
  | [], _, h => h
  | _ :: _, _, h => h.2.2.2.2
/-- what the loop leaves -/
def FiOut (o : Out) (asked : List D) (a m lo hi : Int) : Prop :=
  (∃ e', o = .rt (.f .none) e' ∧ IsL (InS a m lo hi) none) ∨
    ∃ (xs : List (Int × Int × Int)) (n a' m' lo' hi' : Int), o = .nx (eI a' m' lo' hi' (asked ++ xs.map trD) (some (.int n))) ∧ Good xs n ∧ xs.length ≤ 1000 ∧ IsL (InS a m lo hi) (some (xs.foldr un n).toNat)
theorem fi_loop : ∀ (K : Nat) (a m lo hi : Int) (asked : List D) (c5 : Option D), K ≤ 160 → m < 2 ^ K → 0 ≤ a → a < m → 0 < lo → lo ≤ hi → hi < m → asked.length + K ≤ 1000 →
    ∃ (o : Out), sWhile m_first_in_t1 m_first_in_w1 (eI a m lo hi asked c5) = o ∧ ((∃ e', o = .rt (.f .none) e' ∧ IsL (InS a m lo hi) none) ∨
      ∃ (xs : List (Int × Int × Int)) (n a' m' lo' hi' : Int), o = .nx (eI a' m' lo' hi' (asked ++ xs.map trD) (some (.int n))) ∧ Good xs n ∧ xs.length ≤ K ∧ IsL (InS a m lo hi) (some (xs.foldr un n).toNat))
  | 0, a, m, lo, hi, asked, c5, _, h, h1, h2, h3, h4, h5, _ => by
    have : m < 1 := by simpa using h
    omega
  | K + 1, a, m, lo, hi, asked, c5, hK, hm, a0, am, l0, lh, hmm, hlen => by
    have hmB : m < 2 ^ 160 := Int.lt_of_lt_of_le hm (by exact_mod_cast Nat.pow_le_pow_right (by decide : 0 < 2) hK)
    by_cases az : a ≤ 0
    · have : a = 0 := by omega
      subst this
      refine ⟨_, rfl, .inl ⟨eI 0 m lo hi asked c5, ?_, in_zero l0⟩⟩
      rw [sWhile_eq, t_yes l0]
      simp only [w_zero]
    have apos : 0 < a := by omega
    have step : ∀ (a lo hi : Int), 0 < a → 2 * a ≤ m → 0 < lo → lo ≤ hi → hi < m → ∀ (T : Out), T = w1R (eI a m lo hi asked c5) →
        ∃ o : Out, (match T with | .nx e2 => sWhile m_first_in_t1 m_first_in_w1 e2 | .ct e2 => sWhile m_first_in_t1 m_first_in_w1 e2 | .bk e2 => .nx e2 | o => o) = o ∧ ((∃ e', o = .rt (.f .none) e' ∧ IsL (InS a m lo hi) none) ∨
      ∃ (xs : List (Int × Int × Int)) (n a' m' lo' hi' : Int), o = .nx (eI a' m' lo' hi' (asked ++ xs.map trD) (some (.int n))) ∧ Good xs n ∧ xs.length ≤ K + 1 ∧ IsL (InS a m lo hi) (some (xs.foldr un n).toNat)) := by
      intro a lo hi apos am2 l0 lh hmm T hT
      unfold w1R at hT
      have aB : Bd a := ⟨by omega, by omega⟩
      have c0 := ceil_nn apos (show 0 ≤ lo by omega)
      have c2 := ceil_hi (x := lo) apos
      have cB : Bd (ceil lo a) := by
        refine ⟨c0, ?_⟩
        rcases Int.lt_or_le (ceil lo a) 1 with z | z
        · omega
        · have : (ceil lo a - 1) * 1 ≤ (ceil lo a - 1) * a := Int.mul_le_mul_of_nonneg_left (by omega) (by omega)
          omega
      have hw := mulD_i (bd_mul cB aB)
      rw [w_n aB apos] at hT
      by_cases hc : ceil lo a * a ≤ hi
      · rw [w_hit hw hc] at hT
        refine ⟨_, rfl, .inr ⟨[], ceil lo a, a, m, lo, hi, ?_, cB, by simp, in_hit apos l0 hmm hc⟩⟩
        rw [hT]
        simp
      · rw [w_no hw hc, w_down apos (by omega)] at hT
        have D : Down a m lo hi := ⟨apos, by omega, l0, lh, hmm, by omega⟩
        obtain ⟨_, _, p1, p2, p3⟩ := D.parts
        have q0 := Int.emod_nonneg (-m) (show a ≠ 0 by omega)
        have q1 := Int.emod_lt_of_pos (-m) apos
        obtain ⟨o, g1, g2⟩ := fi_loop K (-m % a) a (lo % a) (hi % a) (asked ++ [trD (a, m, lo)]) (some (.int (ceil lo a))) (by omega) (by rw [Int.pow_succ] at hm; omega) q0 q1 p1 p2 p3 (by rw [List.length_append, List.length_singleton]; omega)
        rw [hT]
        refine ⟨o, g1, ?_⟩
        rcases g2 with ⟨e', z1, z2⟩ | ⟨xs, n, a', m', lo', hi', z1, z2, z3, z4⟩
        · exact .inl ⟨e', z1, D.none z2⟩
        · have nn := z2.bd
          obtain ⟨u0, u1⟩ := D.some z4
          rw [Int.toNat_of_nonneg nn.1] at u0 u1
          have uB := in_lt (by omega) u1
          rw [Int.toNat_of_nonneg u0] at uB
          refine .inr ⟨(a, m, lo) :: xs, n, a', m', lo', hi', by rw [z1]; simp, ⟨z2, apos, aB, ⟨show 0 ≤ m by omega, hmB⟩, ⟨u0, show ceil (lo + m * xs.foldr un n) a < 2 ^ 160 by omega⟩⟩, by simp; omega, u1⟩
    rw [sWhile_eq, t_yes l0]
    simp only
    by_cases hf : m < 2 * a
    · obtain ⟨o, g1, g2⟩ := step (m - a) (m - hi) (m - lo) (by omega) (by omega) (by omega) (by omega) (by omega) _ rfl
      refine ⟨o, ?_, ?_⟩
      · rw [← g1]
        rw [w1_flip (by omega) hf]
        all_goals (generalize w1R (eI (m - a) m (m - hi) (m - lo) asked c5) = T; cases T <;> rfl)
      · rcases g2 with ⟨e', z1, z2⟩ | ⟨xs, n, a', m', lo', hi', z1, z2, z3, z4⟩
        · exact .inl ⟨e', z1, z2.congr (in_flip l0 lh hmm)⟩
        · exact .inr ⟨xs, n, a', m', lo', hi', z1, z2, z3, z4.congr (in_flip l0 lh hmm)⟩
    · obtain ⟨o, g1, g2⟩ := step a lo hi apos (by omega) l0 lh hmm _ rfl
      refine ⟨o, ?_, g2⟩
      rw [← g1]
      rw [w1_flat (by omega) hf]
      all_goals (generalize w1R (eI a m lo hi asked c5) = T; cases T <;> rfl)
/-! the row taken back -/
def eU (a m lo hi : Int) (asked : List D) (n : Int) (c6 c7 c8 : Option D) : En := [some (.f (.int a)), some (.f (.int m)), some (.f (.int lo)), some (.f (.int hi)), some (.f (.list asked)), some (.f (.int n)), c6.map .f, c7.map .f, c8.map .f]
theorem un_body {a m lo hi n : Int} {asked : List D} {x : Int × Int × Int} (h0 : 0 < x.1) (h1 : Bd x.1) (h2 : Bd x.2.1) (h3 : Bd n) : m_first_in_b1 (eU a m lo hi asked n (some (.int x.1)) (some (.int x.2.1)) (some (.int x.2.2))) = .nx (eU a m lo hi asked (un x n) (some (.int x.1)) (some (.int x.2.1)) (some (.int x.2.2))) := by
  have w := mulD_i (bd_mul h2 h3)
  have d := fdivD_i (i := -(x.2.2 + x.2.1 * n)) (bd_div h1 h0)
  unfold un ceil
  generalize x.2.1 * n = p at *
  generalize -(x.2.2 + p) / x.1 = q at *
  simp [m_first_in_b1, eU, w, d]
theorem un_loop {a m lo hi : Int} {asked : List D} : ∀ (xs : List (Int × Int × Int)) (n : Int) (ys : List D), Good xs n → ∀ (c6 c7 c8 : Option D), ∃ c6' c7' c8', loopL (tgT [(tgN 6), (tgN 7), (tgN 8)]) m_first_in_b1 ((xs.map trD).reverse ++ ys) (eU a m lo hi asked n c6 c7 c8) = loopL (tgT [(tgN 6), (tgN 7), (tgN 8)]) m_first_in_b1 ys (eU a m lo hi asked (xs.foldr un n) c6' c7' c8')
  | [], n, ys, _, c6, c7, c8 => ⟨c6, c7, c8, rfl⟩
  | x :: xs, n, ys, h, c6, c7, c8 => by
    obtain ⟨g0, g1, g2, g3, g4⟩ := h
    obtain ⟨c6', c7', c8', e⟩ := un_loop xs n (trD x :: ys) g0 c6 c7 c8
    refine ⟨some (.int x.1), some (.int x.2.1), some (.int x.2.2), ?_⟩
    rw [List.map_cons, List.reverse_cons, List.append_assoc, List.singleton_append, e]
    refine loop_nx ?_ (un_body g1 g2 g3 g0.bd)
    cases c6' <;> cases c7' <;> cases c8' <;> simp [eU, trD]
theorem fi_s1 {a m lo hi : Int} (hm : 0 < m) : sAsgF 0 (mZ (m2 modD (mH (mN (mVar 0))) (mH (mN (mVar 1))))) [some (.f (.int a)), some (.f (.int m)), some (.f (.int lo)), some (.f (.int hi)), none, none, none, none, none] = .nx [some (.f (.int (a % m))), some (.f (.int m)), some (.f (.int lo)), some (.f (.int hi)), none, none, none, none, none] := by
  have d := modD_i (i := a) hm
  generalize a % m = x at *
  simp [d]
theorem fi_s2 {a m lo hi : Int} : sAsg 4 (mLst aNil) [some (.f (.int a)), some (.f (.int m)), some (.f (.int lo)), some (.f (.int hi)), none, none, none, none, none] = .nx (eI a m lo hi [] none) := by
  simp [eI]
theorem fi_s3 {a m lo hi : Int} : sAsgF 5 (mC (.int 0)) (eI a m lo hi [] none) = .nx (eI a m lo hi [] (some (.int 0))) := by
  simp [eI]
theorem fi_frz {a m lo hi n : Int} {asked : List D} {t : En → Out} : sFrz 4 t (eI a m lo hi asked (some (.int n))) = t (eU a m lo hi asked n none none none) := by
  simp [eI, eU]
theorem fi_rev {a m lo hi n : Int} {asked : List D} : mRev (mVar 4) (eU a m lo hi asked n none none none) = .ok (asked.reverse, eU a m lo hi asked n none none none) := by
  simp [eU]
theorem fi_ret {a m lo hi n : Int} {asked : List D} {c6 c7 c8 : Option D} : sRet (mN (mVar 5)) (eU a m lo hi asked n c6 c7 c8) = .rt (.f (.int n)) (eU a m lo hi asked n c6 c7 c8) := by
  simp [eU]
theorem first_in_r {a m lo hi : Int} (hm : 0 < m) (hmB : m < 2 ^ 160) (l0 : 0 ≤ lo) (lh : lo ≤ hi) (hh : hi < m) : ∃ o, S_first_in [.f (.int a), .f (.int m), .f (.int lo), .f (.int hi)] = .ok (.f (oD o), []) ∧ IsL (InS a m lo hi) o := by
  have q0 := Int.emod_nonneg a (show m ≠ 0 by omega)
  have q1 := Int.emod_lt_of_pos a hm
  have fin : ∀ (xs : List (Int × Int × Int)) (n a' m' lo' hi' : Int), Good xs n → ∃ e', sFrz 4 (sSeq (sFor (mRev (mVar 4)) (tgT [(tgN 6), (tgN 7), (tgN 8)]) m_first_in_b1) (sRet (mN (mVar 5)))) (eI a' m' lo' hi' (xs.map trD) (some (.int n))) = .rt (.f (oD (some (xs.foldr un n).toNat))) e' := fun xs n a' m' lo' hi' g => by
    obtain ⟨c6, c7, c8, e⟩ := un_loop (a := a') (m := m') (lo := lo') (hi := hi') (asked := xs.map trD) xs n [] g none none none
    rw [List.append_nil, loopL_nil] at e
    rw [fi_frz, seq_nx ((for_rD fi_rev).trans e), fi_ret]
    refine ⟨eU a' m' lo' hi' (xs.map trD) (xs.foldr un n) c6 c7 c8, ?_⟩
    rw [show oD (some (xs.foldr un n).toNat) = .int ((xs.foldr un n).toNat : Int) from rfl, Int.toNat_of_nonneg g.bd.1]
  have key : ∃ o e', m_first_in [some (.f (.int a)), some (.f (.int m)), some (.f (.int lo)), some (.f (.int hi)), none, none, none, none, none] = .rt (.f (oD o)) e' ∧ IsL (InS a m lo hi) o := by
    unfold m_first_in
    rw [seq_nx (fi_s1 hm), seq_nx fi_s2, seq_nx fi_s3]
    rcases Int.lt_or_le 0 lo with z | z
    · obtain ⟨o, g1, g2⟩ := fi_loop 160 (a % m) m lo hi [] (some (.int 0)) (Nat.le_refl _) hmB q0 q1 z lh hh (by simp)
      rcases g2 with ⟨e', z1, z2⟩ | ⟨xs, n, a', m', lo', hi', z1, z2, z3, z4⟩
      · rw [seq_rt (g1.trans z1)]
        exact ⟨none, e', rfl, z2.congr (in_mod a m lo hi)⟩
      · rw [List.nil_append] at z1
        rw [seq_nx (g1.trans z1)]
        obtain ⟨e', f⟩ := fin xs n a' m' lo' hi' z2
        exact ⟨_, e', f, z4.congr (in_mod a m lo hi)⟩
    · have : lo = 0 := by omega
      subst this
      rw [seq_nx (while_f t_no)]
      obtain ⟨e', f⟩ := fin [] 0 (a % m) m 0 hi ⟨by decide, by decide⟩
      refine ⟨some 0, e', f, ?_, fun n hn => by omega⟩
      unfold InS
      rw [show ((0 : Nat) : Int) * a = 0 from Int.zero_mul a, Int.zero_emod]
      exact ⟨Int.le_refl _, lh⟩
  obtain ⟨o, e', key, ho⟩ := key
  refine ⟨o, spN_r rfl ?_, ho⟩
  rw [runD_r, show startE 9 [.f (.int a), .f (.int m), .f (.int lo), .f (.int hi)] = [some (.f (.int a)), some (.f (.int m)), some (.f (.int lo)), some (.f (.int hi)), none, none, none, none, none] from rfl, key]
  rfl
end Lk23

namespace Lk23
open DL
/-! ### plain facts: the gaps of the sorted rests -/
theorem R_mod (a m k : Nat) : R (a % m) m k = R a m k := by
  unfold R
  rw [Nat.mul_mod, Nat.mod_mod, ← Nat.mul_mod]
def restI (a m n : Nat) : List Int := (List.range n).map fun k => ((R a m k : Nat) : Int)
theorem pw_nodup {l : List Int} (h : l.Pairwise (· < ·)) : l.Nodup := h.imp fun q => Int.ne_of_lt q
theorem restI_nodup {a m p q u v n : Nat} (h : G3 a m p q u v) (hn : n ≤ u + v) : (restI a m n).Nodup := by
  unfold restI
  rw [List.Nodup, List.pairwise_map]
  refine List.Pairwise.imp_of_mem (fun {i j} hi hj hij e => ?_) (List.nodup_range (n := n))
  exact hij (h.inj hn (List.mem_range.mp hi) (List.mem_range.mp hj) (by omega))
/-- whose rest it is -/
def who (a m n : Nat) (x : Int) : Nat := ((List.range n).find? fun k => decide (((R a m k : Nat) : Int) = x)).getD 0
theorem who_ok {a m n : Nat} {x : Int} (h : x ∈ restI a m n) : who a m n x < n ∧ ((R a m (who a m n x) : Nat) : Int) = x := by
  obtain ⟨k, hk, e⟩ := List.mem_map.mp h
  have hs : ((List.range n).find? fun k => decide (((R a m k : Nat) : Int) = x)).isSome = true := by
    rw [List.find?_isSome]
    exact ⟨k, hk, decide_eq_true e⟩
  obtain ⟨j, hj⟩ := Option.isSome_iff_exists.mp hs
  unfold who
  rw [hj]
  exact ⟨List.mem_range.mp (List.mem_of_find?_eq_some hj), of_decide_eq_true (List.find?_some (p := fun k => decide (((R a m k : Nat) : Int) = x)) hj)⟩
theorem srt_perm {a m p q u v n : Nat} (h : G3 a m p q u v) (hn : n ≤ u + v) : (srtU (restI a m n)).Perm (restI a m n) :=
  (List.perm_ext_iff_of_nodup (pw_nodup (srtU_pw _)) (restI_nodup h hn)).mpr fun _ => mem_srtU
theorem srt_len {a m p q u v n : Nat} (h : G3 a m p q u v) (hn : n ≤ u + v) : (srtU (restI a m n)).length = n := by
  rw [(srt_perm h hn).length_eq]
  simp [restI]
/-- the row of those whose rests are sorted -/
def whos (a m n : Nat) : List Nat := (srtU (restI a m n)).map (who a m n)
theorem whos_perm {a m p q u v n : Nat} (h : G3 a m p q u v) (hn : n ≤ u + v) : (whos a m n).Perm (List.range n) := by
  refine (List.perm_ext_iff_of_nodup ?_ List.nodup_range).mpr fun k => ?_
  · unfold whos
    rw [List.Nodup, List.pairwise_map]
    refine List.Pairwise.imp_of_mem (fun {x y} hx hy hxy e => ?_) (pw_nodup (srtU_pw _))
    have h1 := (who_ok (mem_srtU.mp hx)).2
    have h2 := (who_ok (mem_srtU.mp hy)).2
    rw [e, h2] at h1
    exact hxy h1.symm
  · constructor
    · intro hk
      obtain ⟨x, hx, rfl⟩ := List.mem_map.mp hk
      exact List.mem_range.mpr (who_ok (mem_srtU.mp hx)).1
    · intro hk
      have hk := List.mem_range.mp hk
      have hx : ((R a m k : Nat) : Int) ∈ restI a m n := List.mem_map.mpr ⟨k, List.mem_range.mpr hk, rfl⟩
      refine List.mem_map.mpr ⟨_, mem_srtU.mpr hx, ?_⟩
      obtain ⟨w1, w2⟩ := who_ok hx
      exact h.inj hn w1 hk (by omega)
/-- the sizes, as the law makes them -/
def sizesI (m : Nat) (X : List Int) : List Int := ((List.range (X.length - 1)).map fun k => X.getD (k + 1) 0 - X.getD k 0) ++ [X.getD 0 0 + m - X.getD (X.length - 1) 0]
theorem sizes_get {m : Nat} {X : List Int} {i : Nat} (hi : i < X.length) : (sizesI m X)[i]? = some (if i + 1 < X.length then X.getD (i + 1) 0 - X.getD i 0 else X.getD 0 0 + m - X.getD i 0) := by
  unfold sizesI
  by_cases hc : i + 1 < X.length
  · rw [if_pos hc, List.getElem?_append_left (by rw [List.length_map, List.length_range]; omega), List.getElem?_map, List.getElem?_range (by omega)]
    rfl
  · rw [if_neg hc, List.getElem?_append_right (by rw [List.length_map, List.length_range]; omega)]
    have : i = X.length - 1 := by omega
    simp [this]
theorem pw_get {X : List Int} (h : X.Pairwise (· < ·)) {i j : Nat} (hj : j < X.length) (hij : i < j) : X.getD i 0 < X.getD j 0 := by
  have := List.pairwise_iff_getElem.mp h i j (by omega) hj hij
  rw [List.getD_eq_getElem?_getD, List.getD_eq_getElem?_getD, List.getElem?_eq_getElem hj, List.getElem?_eq_getElem (by omega)]
  exact this
theorem mem_getD {X : List Int} {i : Nat} (hi : i < X.length) : X.getD i 0 ∈ X := by
  rw [List.getD_eq_getElem?_getD, List.getElem?_eq_getElem hi]
  exact List.getElem_mem hi
theorem mem_at {X : List Int} {x : Int} (h : x ∈ X) : ∃ i, i < X.length ∧ X.getD i 0 = x := by
  obtain ⟨i, hi, e⟩ := List.getElem_of_mem h
  refine ⟨i, hi, ?_⟩
  rw [List.getD_eq_getElem?_getD, List.getElem?_eq_getElem hi]
  exact e
theorem gap_le {p q u v n k : Nat} : gapS p q u v n k ≤ p + q := by
  unfold gapS
  split
  · omega
  · split <;> omega
theorem gap_pos {p q u v n k : Nat} (hp : 0 < p) (hq : 0 < q) : 0 < gapS p q u v n k := by
  unfold gapS
  split
  · omega
  · split <;> omega
section
variable {a m p q u v n : Nat}
theorem size_at (h : G3 a m p q u v) (hu : u < n) (hv : v < n) (hn : n ≤ u + v) {i : Nat} (hi : i < n) {d : Int} (hd : d = if i + 1 < n then (srtU (restI a m n)).getD (i + 1) 0 - (srtU (restI a m n)).getD i 0 else (srtU (restI a m n)).getD 0 0 + m - (srtU (restI a m n)).getD i 0) :
    d = ((gapS p q u v n (who a m n ((srtU (restI a m n)).getD i 0)) : Nat) : Int) := by
  have hl := srt_len h hn
  have hpw := srtU_pw (restI a m n)
  have mem : ∀ x, x ∈ srtU (restI a m n) ↔ x ∈ restI a m n := fun _ => mem_srtU
  generalize srtU (restI a m n) = X at *
  have rng : ∀ j, j < n → 0 ≤ X.getD j 0 ∧ X.getD j 0 < m := fun j hj => by
    obtain ⟨w1, w2⟩ := who_ok ((mem _).mp (mem_getD (by omega : j < X.length)))
    have := R_lt (a := a) (k := who a m n (X.getD j 0)) h.m0
    omega
  have hk := who_ok ((mem _).mp (mem_getD (by omega : i < X.length)))
  generalize hkk : who a m n (X.getD i 0) = k at *
  obtain ⟨k1, k2⟩ := hk
  have g0 := gap_pos (u := u) (v := v) (n := n) (k := k) h.p0 h.q0
  have g1 := gap_le (p := p) (q := q) (u := u) (v := v) (n := n) (k := k)
  have pq := h.pq
  have n2 : 2 ≤ n := by have := h.u0; omega
  have ri := rng i hi
  have r0 := rng 0 (by omega)
  -- the next one is not nearer
  have lo : ((gapS p q u v n k : Nat) : Int) ≤ d := by
    by_cases hc : i + 1 < n
    · rw [if_pos hc] at hd
      have hlt := pw_get hpw (i := i) (j := i + 1) (by omega) (by omega)
      have rn := rng (i + 1) hc
      obtain ⟨w1, w2⟩ := who_ok ((mem _).mp (mem_getD (by omega : i + 1 < X.length)))
      have := h.none hu hv hn (k := k) (i := who a m n (X.getD (i + 1) 0)) (d := d.toNat) k1 w1 (by omega) (by rw [if_pos (by omega)]; omega) (by omega)
      omega
    · rw [if_neg hc] at hd
      have hlt := pw_get hpw (i := 0) (j := i) (by omega) (by omega)
      obtain ⟨w1, w2⟩ := who_ok ((mem _).mp (mem_getD (by omega : 0 < X.length)))
      have := h.none hu hv hn (k := k) (i := who a m n (X.getD 0 0)) (d := d.toNat) k1 w1 (by omega) (by rw [if_neg (by omega)]; omega) (by omega)
      omega
  -- and there stands one at the gap
  have hi' : d ≤ ((gapS p q u v n k : Nat) : Int) := by
    have hj := h.jlt hu hv hn k1
    have nx := h.next hu hv hn k1
    have hx : ((R a m (gapJ u v n k) : Nat) : Int) ∈ X := (mem _).mpr (List.mem_map.mpr ⟨_, List.mem_range.mpr hj, rfl⟩)
    obtain ⟨j, hj1, hj2⟩ := mem_at hx
    have rk := R_lt (a := a) (k := k) h.m0
    by_cases hw : R a m k + gapS p q u v n k < m
    · rw [if_pos hw] at nx
      -- ahead of it
      have hij : i < j := by
        rcases Nat.lt_trichotomy i j with z | z | z
        · exact z
        · subst z; omega
        · have := pw_get hpw (i := j) (j := i) (by omega) z
          omega
      have hc : i + 1 < n := by omega
      rw [if_pos hc] at hd
      rcases Nat.eq_or_lt_of_le (show i + 1 ≤ j by omega) with z | z
      · subst z; omega
      · have := pw_get hpw (i := i + 1) (j := j) hj1 z
        omega
    · rw [if_neg hw] at nx
      by_cases hc : i + 1 < n
      · rw [if_pos hc] at hd
        have rn := rng (i + 1) hc
        omega
      · rw [if_neg hc] at hd
        rcases Nat.eq_zero_or_pos j with z | z
        · subst z; omega
        · have := pw_get hpw (i := 0) (j := j) hj1 z
          omega
  omega
theorem sizes_eq (h : G3 a m p q u v) (hu : u < n) (hv : v < n) (hn : n ≤ u + v) : sizesI m (srtU (restI a m n)) = (whos a m n).map fun k => ((gapS p q u v n k : Nat) : Int) := by
  have hl := srt_len h hn
  have hn0 : 0 < n := by omega
  unfold whos
  rw [List.map_map]
  apply List.ext_getElem?
  intro i
  rw [List.getElem?_map]
  rcases Nat.lt_or_ge i n with hi | hi
  · have := size_at h hu hv hn hi rfl
    rw [sizes_get (by omega), hl, this, List.getElem?_eq_getElem (l := srtU (restI a m n)) (by omega), Option.map_some]
    congr 1
    simp only [Function.comp]
    rw [List.getD_eq_getElem?_getD, List.getElem?_eq_getElem (by omega)]
    rfl
  · have e : (sizesI m (srtU (restI a m n))).length = n := by
      unfold sizesI
      rw [List.length_append, List.length_map, List.length_range, List.length_singleton, hl]
      omega
    rw [List.getElem?_eq_none (by omega), List.getElem?_eq_none (by omega)]
    rfl
/-- the gaps, by sorts -/
theorem gap_row (h : G3 a m p q u v) (hu : u < n) (hv : v < n) (hn : n ≤ u + v) : ((List.range n).map fun k => ((gapS p q u v n k : Nat) : Int)) = List.replicate (n - u) (p : Int) ++ (List.replicate (u + v - n) ((p : Int) + q) ++ List.replicate (n - v) (q : Int)) := by
  apply List.ext_getElem
  · simp
    omega
  · intro i h1 h2
    rw [List.getElem_map, List.getElem_range]
    simp at h1
    unfold gapS
    by_cases c1 : i + u < n
    · rw [if_pos c1, List.getElem_append_left (by simp; omega), List.getElem_replicate]
    · rw [if_neg c1, List.getElem_append_right (by simp; omega)]
      by_cases c2 : v ≤ i
      · rw [if_pos c2, List.getElem_append_right (by simp; omega), List.getElem_replicate]
      · rw [if_neg c2, List.getElem_append_left (by simp; omega), List.getElem_replicate]
        omega
theorem sizes_perm (h : G3 a m p q u v) (hu : u < n) (hv : v < n) (hn : n ≤ u + v) : (sizesI m (srtU (restI a m n))).Perm (List.replicate (n - u) (p : Int) ++ (List.replicate (u + v - n) ((p : Int) + q) ++ List.replicate (n - v) (q : Int))) := by
  rw [sizes_eq h hu hv hn, ← gap_row h hu hv hn]
  exact (whos_perm h hn).map _
/-- how many of a size there are -/
def cntI (l : List Int) (s : Int) : Int := ((l.filter fun t => decide (t = s)).length : Int)
theorem cnt_perm {l l' : List Int} (h : l.Perm l') (s : Int) : cntI l s = cntI l' s := by
  unfold cntI
  rw [(h.filter _).length_eq]
theorem cnt_app (l l' : List Int) (s : Int) : cntI (l ++ l') s = cntI l s + cntI l' s := by
  unfold cntI
  rw [List.filter_append, List.length_append, Int.natCast_add]
theorem cnt_rep (k : Nat) (t s : Int) : cntI (List.replicate k t) s = if t = s then (k : Int) else 0 := by
  unfold cntI
  by_cases h : t = s
  · rw [if_pos h, List.filter_eq_self.mpr]
    · simp
    · intro x hx
      rw [(List.mem_replicate.mp hx).2]
      exact decide_eq_true h
  · rw [if_neg h, List.filter_eq_nil_iff.mpr]
    · rfl
    · intro x hx
      rw [(List.mem_replicate.mp hx).2]
      simpa using h
/-- what gaps finds -/
def gps (p q u v n : Nat) : List (Int × Int) := (if p = q then [((p : Int), (n : Int) - u + (n - v))] else [((p : Int), (n : Int) - u), ((q : Int), (n : Int) - v)]) ++ if n < u + v then [((p : Int) + q, (u : Int) + v - n)] else []
theorem cnt_at (h : G3 a m p q u v) (hu : u < n) (hv : v < n) (hn : n ≤ u + v) (s : Int) : cntI (sizesI m (srtU (restI a m n))) s = (if (p : Int) = s then (n : Int) - u else 0) + ((if (p : Int) + q = s then (u : Int) + v - n else 0) + if (q : Int) = s then (n : Int) - v else 0) := by
  rw [cnt_perm (sizes_perm h hu hv hn), cnt_app, cnt_app, cnt_rep, cnt_rep, cnt_rep]
  congr 1
  · split <;> omega
  · congr 1
    · split <;> omega
    · split <;> omega
theorem size_mem (h : G3 a m p q u v) (hu : u < n) (hv : v < n) (hn : n ≤ u + v) (s : Int) : s ∈ sizesI m (srtU (restI a m n)) ↔ s = p ∨ s = q ∨ (n < u + v ∧ s = (p : Int) + q) := by
  rw [(sizes_perm h hu hv hn).mem_iff, List.mem_append, List.mem_append, List.mem_replicate, List.mem_replicate, List.mem_replicate]
  constructor
  · rintro (⟨_, e⟩ | ⟨e1, e⟩ | ⟨_, e⟩)
    · exact .inl e
    · exact .inr (.inr ⟨by omega, e⟩)
    · exact .inr (.inl e)
  · rintro (e | e | ⟨e1, e⟩)
    · exact .inl ⟨by omega, e⟩
    · exact .inr (.inr ⟨by omega, e⟩)
    · exact .inr (.inl ⟨by omega, e⟩)
theorem gaps_law (h : G3 a m p q u v) (hu : u < n) (hv : v < n) (hn : n ≤ u + v) : ((srtU (sizesI m (srtU (restI a m n)))).map fun s => (s, cntI (sizesI m (srtU (restI a m n))) s)) = srtP (gps p q u v n) := by
  have hp := h.p0
  have hq := h.q0
  refine leP_uniq ?_ (srtP_pw _) (List.Perm.trans ?_ (srtP_perm _).symm)
  · rw [List.pairwise_map]
    exact (srtU_pw _).imp fun {x y} hxy => leP_of (SrtO.lexB_iff.mpr (.inl hxy))
  · refine (List.perm_ext_iff_of_nodup ?_ ?_).mpr fun x => ?_
    · rw [List.Nodup, List.pairwise_map]
      exact (srtU_pw _).imp fun {x y} hxy e => by
        have := congrArg Prod.fst e
        simp only at this
        omega
    · unfold gps
      split <;> split <;> simp <;> omega
    · obtain ⟨s, c⟩ := x
      have e1 : (s, c) ∈ ((srtU (sizesI m (srtU (restI a m n)))).map fun s => (s, cntI (sizesI m (srtU (restI a m n))) s)) ↔ (s = p ∨ s = q ∨ (n < u + v ∧ s = (p : Int) + q)) ∧ c = (if (p : Int) = s then (n : Int) - u else 0) + ((if (p : Int) + q = s then (u : Int) + v - n else 0) + if (q : Int) = s then (n : Int) - v else 0) := by
        rw [List.mem_map, ← size_mem h hu hv hn, ← cnt_at h hu hv hn]
        constructor
        · rintro ⟨t, ht, e⟩
          cases e
          exact ⟨mem_srtU.mp ht, rfl⟩
        · rintro ⟨h1, h2⟩
          exact ⟨s, mem_srtU.mpr h1, by rw [h2]⟩
      rw [e1]
      unfold gps
      have ne1 : (p : Int) + q ≠ p := by omega
      have ne2 : (p : Int) + q ≠ q := by omega
      by_cases c1 : p = q <;> by_cases c2 : n < u + v
      · rw [if_pos c1, if_pos c2]
        simp only [List.cons_append, List.nil_append, List.mem_cons, Prod.mk.injEq, List.not_mem_nil, or_false]
        subst c1
        constructor
        · rintro ⟨rfl | rfl | ⟨_, rfl⟩, rfl⟩
          · exact .inl ⟨rfl, by simp; omega⟩
          · exact .inl ⟨rfl, by simp; omega⟩
          · refine .inr ⟨rfl, ?_⟩
            rw [if_neg (by omega), if_pos rfl, if_neg (by omega)]
            omega
        · rintro (⟨rfl, rfl⟩ | ⟨rfl, rfl⟩)
          · exact ⟨.inl rfl, by simp; omega⟩
          · refine ⟨.inr (.inr ⟨c2, rfl⟩), ?_⟩
            rw [if_neg (by omega), if_pos rfl, if_neg (by omega)]
            omega
      · rw [if_pos c1, if_neg c2]
        simp only [List.append_nil, List.mem_cons, Prod.mk.injEq, List.not_mem_nil, or_false]
        subst c1
        constructor
        · rintro ⟨rfl | rfl | ⟨z, rfl⟩, rfl⟩
          · exact ⟨rfl, by simp; omega⟩
          · exact ⟨rfl, by simp; omega⟩
          · exact (c2 z).elim
        · rintro ⟨rfl, rfl⟩
          exact ⟨.inl rfl, by simp; omega⟩
      · rw [if_neg c1, if_pos c2]
        simp only [List.cons_append, List.nil_append, List.mem_cons, Prod.mk.injEq, List.not_mem_nil, or_false]
        constructor
        · rintro ⟨rfl | rfl | ⟨_, rfl⟩, rfl⟩
          · exact .inl ⟨rfl, by rw [if_pos rfl, if_neg (by omega), if_neg (by omega)]; omega⟩
          · exact .inr (.inl ⟨rfl, by rw [if_neg (by omega), if_neg (by omega), if_pos rfl]; omega⟩)
          · exact .inr (.inr ⟨rfl, by rw [if_neg (by omega), if_pos rfl, if_neg (by omega)]; omega⟩)
        · rintro (⟨rfl, rfl⟩ | ⟨rfl, rfl⟩ | ⟨rfl, rfl⟩)
          · exact ⟨.inl rfl, by rw [if_pos rfl, if_neg (by omega), if_neg (by omega)]; omega⟩
          · exact ⟨.inr (.inl rfl), by rw [if_neg (by omega), if_neg (by omega), if_pos rfl]; omega⟩
          · exact ⟨.inr (.inr ⟨c2, rfl⟩), by rw [if_neg (by omega), if_pos rfl, if_neg (by omega)]; omega⟩
      · rw [if_neg c1, if_neg c2]
        simp only [List.append_nil, List.mem_cons, Prod.mk.injEq, List.not_mem_nil, or_false]
        constructor
        · rintro ⟨rfl | rfl | ⟨z, rfl⟩, rfl⟩
          · exact .inl ⟨rfl, by rw [if_pos rfl, if_neg (by omega), if_neg (by omega)]; omega⟩
          · exact .inr ⟨rfl, by rw [if_neg (by omega), if_neg (by omega), if_pos rfl]; omega⟩
          · exact (c2 z).elim
        · rintro (⟨rfl, rfl⟩ | ⟨rfl, rfl⟩)
          · exact ⟨.inl rfl, by rw [if_pos rfl, if_neg (by omega), if_neg (by omega)]; omega⟩
          · exact ⟨.inr (.inl rfl), by rw [if_neg (by omega), if_neg (by omega), if_pos rfl]; omega⟩
end
end Lk23

namespace Lk23
open PySem L2 DL PyProof.Rows Md Sh ShW ShN
/-! ### gaps -/
noncomputable def S_gaps : Sf := spN 3 11 m_gaps
theorem sem_gaps : ∀ cs c outs, S_gaps cs = .ok (c, outs) → cs.length = 3 ∧ runD 11 m_gaps cs = .ok (c, outs) := spN_sem
def eW (a m n : D) (p q u v : Int) (c7 : Option D) : En := [some (.f a), some (.f m), some (.f n), some (.f (.int p)), some (.f (.int q)), some (.f (.int u)), some (.f (.int v)), c7.map .f, none, none, none]
section
variable {a m : D} {n p q u v : Int} {c7 : Option D}
theorem gt_r : m_gaps_t1 (eW a m (.int n) p q u v c7) = .ok (decide (u + v < n), eW a m (.int n) p q u v c7) := by
  simp [m_gaps_t1, eW]
theorem gw_right {x y o w1 w2 : Int} (h : q < p) (d1 : fdivD (.int (n - 1 - u)) (.int v) = .ok (.f (.int x))) (d2 : fdivD (.int (p - 1)) (.int q) = .ok (.f (.int y))) (ho : (if y < x then y else x) = o) (k1 : mulD (.int o) (.int q) = .ok (.f (.int w1))) (k2 : mulD (.int o) (.int v) = .ok (.f (.int w2))) : m_gaps_w1 (eW a m (.int n) p q u v c7) = .nx (eW a m (.int n) (p - w1) q (u + w2) v (some (.int o))) := by
  have h' : q < p := h
  cases c7 <;> simp [m_gaps_w1, eW, h', d1, d2, ho, k1, k2]
theorem gw_left {x y o w1 w2 : Int} (h : ¬ q < p) (d1 : fdivD (.int (n - 1 - v)) (.int u) = .ok (.f (.int x))) (d2 : fdivD (.int (q - 1)) (.int p) = .ok (.f (.int y))) (ho : (if y < x then y else x) = o) (k1 : mulD (.int o) (.int p) = .ok (.f (.int w1))) (k2 : mulD (.int o) (.int u) = .ok (.f (.int w2))) : m_gaps_w1 (eW a m (.int n) p q u v c7) = .nx (eW a m (.int n) p (q - w1) u (v + w2) (some (.int o))) := by
  cases c7 <;> simp [m_gaps_w1, eW, h, d1, d2, ho, k1, k2]
end
/-- how often -/
def oft (i p q : Nat) : Nat := if (p - 1) / q < i then (p - 1) / q else i
theorem oft_le {i p q : Nat} : oft i p q ≤ i ∧ oft i p q ≤ (p - 1) / q := by
  unfold oft
  split <;> omega
theorem oft_pos {i p q : Nat} (hi : 1 ≤ i) (h : q < p) (hq : 0 < q) : 1 ≤ oft i p q := by
  have : 1 ≤ (p - 1) / q := (Nat.le_div_iff_mul_le hq).mpr (by omega)
  unfold oft
  split <;> omega
theorem oft_mul {i p q : Nat} (h : q < p) : oft i p q * q < p := by
  have h1 : oft i p q * q ≤ (p - 1) / q * q := Nat.mul_le_mul_right _ oft_le.2
  have := Nat.div_mul_le_self (p - 1) q
  omega
theorem oft_int {x p q : Nat} : (if ((p : Int) - 1) / (q : Int) < (x : Int) then ((p : Int) - 1) / (q : Int) else (x : Int)) = ((oft x p q : Nat) : Int) ∨ p = 0 := by
  rcases Nat.eq_zero_or_pos p with z | z
  · exact .inr z
  · refine .inl ?_
    have e : (p : Int) - 1 = ((p - 1 : Nat) : Int) := by omega
    rw [e, ← Int.natCast_ediv]
    unfold oft
    split <;> split <;> omega
/-- no round of rests within the first n -/
def Far (a m n : Nat) : Prop := ∀ t, 1 ≤ t → t < n → R a m t ≠ 0
structure Wk2 (a m n p q u v : Nat) : Prop where
  g : G3 a m p q u v
  un : u < n
  vn : v < n
theorem gaps_loop {a m n : Nat} {aD mD : D} (hm : m < 2 ^ 160) (hn : n < 100000) (hf : Far a m n) : ∀ (k p q u v : Nat) (c7 : Option D), Wk2 a m n p q u v → 2 * n - (u + v) ≤ k → ∃ (p' q' u' v' : Nat) (c7' : Option D), sWhile m_gaps_t1 m_gaps_w1 (eW aD mD (.int (n : Int)) (p : Int) (q : Int) (u : Int) (v : Int) c7) = .nx (eW aD mD (.int (n : Int)) (p' : Int) (q' : Int) (u' : Int) (v' : Int) c7') ∧ Wk2 a m n p' q' u' v' ∧ n ≤ u' + v'
  | 0, p, q, u, v, c7, h, hk => by
    have := h.un
    have := h.vn
    omega
  | k + 1, p, q, u, v, c7, h, hk => by
    have p0 := h.g.p0
    have q0 := h.g.q0
    have u0 := h.g.u0
    have v0 := h.g.v0
    have hu := h.un
    have hv := h.vn
    have pqm := h.g.pq
    by_cases hc : u + v < n
    · have ht : m_gaps_t1 (eW aD mD (.int (n : Int)) (p : Int) (q : Int) (u : Int) (v : Int) c7) = .ok (true, eW aD mD (.int (n : Int)) (p : Int) (q : Int) (u : Int) (v : Int) c7) := by
        rw [gt_r, decide_eq_true (by omega)]
      have bdN : ∀ {x : Nat}, x ≤ m → Bd (x : Int) := fun {x} hx => ⟨by omega, by omega⟩
      rcases Nat.lt_trichotomy q p with z | z | z
      · -- to the right
        have d1 := fdivD_i (i := (n : Int) - 1 - u) (divS (b := (v : Int)) (by omega) (by omega))
        have d2 := fdivD_i (i := (p : Int) - 1) (bd_div (bdN (x := q) (by omega)) (by omega))
        have e1 : ((n : Int) - 1 - u) / (v : Int) = (((n - 1 - u) / v : Nat) : Int) := by
          rw [show (n : Int) - 1 - u = ((n - 1 - u : Nat) : Int) by omega, Int.natCast_ediv]
        rw [e1] at d1
        have o1 : 1 ≤ (n - 1 - u) / v := (Nat.le_div_iff_mul_le v0).mpr (by omega)
        rcases oft_int (x := (n - 1 - u) / v) (p := p) (q := q) with ho | ho
        · obtain ⟨ol, _⟩ := oft_le (i := (n - 1 - u) / v) (p := p) (q := q)
          have op := oft_pos (i := (n - 1 - u) / v) o1 z q0
          have om := oft_mul (i := (n - 1 - u) / v) z
          generalize oft ((n - 1 - u) / v) p q = o at *
          have ov : o * v ≤ n - 1 - u := Nat.le_trans (Nat.mul_le_mul_right _ ol) (Nat.div_mul_le_self _ _)
          have on : o ≤ n := by
            have : o * 1 ≤ o * v := Nat.mul_le_mul_left _ v0
            omega
          have vo : v ≤ o * v := Nat.le_mul_of_pos_left _ (by omega)
          have k1 := mulD_i (show MulOk (o : Int) (q : Int) from mulOk_l (by omega) (by omega))
          have k2 := mulD_i (show MulOk (o : Int) (v : Int) from mulOk_l (by omega) (by omega))
          have hb := gw_right (a := aD) (m := mD) (u := (u : Int)) (v := (v : Int)) (c7 := c7) (by omega : (q : Int) < p) d1 d2 ho k1 k2
          have e2 : (p : Int) - o * q = ((p - o * q : Nat) : Int) := by
            rw [Int.natCast_sub (by omega), Int.natCast_mul]
          have e3 : (u : Int) + o * v = ((u + o * v : Nat) : Int) := by
            rw [Int.natCast_add, Int.natCast_mul]
          rw [e2, e3] at hb
          rw [while_t ht hb]
          exact gaps_loop hm hn hf k (p - o * q) q (u + o * v) v _ ⟨h.g.rights o p q u v om, by omega, hv⟩ (by omega)
        · omega
      · -- equal: a round
        exfalso
        have s := R_sum (a := a) (j := u) (k := v) h.g.m0
        have ru := h.g.ru
        have rv := h.g.rv
        refine hf (u + v) (by omega) hc ?_
        rw [s]
        split <;> omega
      · have d1 := fdivD_i (i := (n : Int) - 1 - v) (divS (b := (u : Int)) (by omega) (by omega))
        have d2 := fdivD_i (i := (q : Int) - 1) (bd_div (bdN (x := p) (by omega)) (by omega))
        have e1 : ((n : Int) - 1 - v) / (u : Int) = (((n - 1 - v) / u : Nat) : Int) := by
          rw [show (n : Int) - 1 - v = ((n - 1 - v : Nat) : Int) by omega, Int.natCast_ediv]
        rw [e1] at d1
        have o1 : 1 ≤ (n - 1 - v) / u := (Nat.le_div_iff_mul_le u0).mpr (by omega)
        rcases oft_int (x := (n - 1 - v) / u) (p := q) (q := p) with ho | ho
        · obtain ⟨ol, _⟩ := oft_le (i := (n - 1 - v) / u) (p := q) (q := p)
          have op := oft_pos (i := (n - 1 - v) / u) o1 z p0
          have om := oft_mul (i := (n - 1 - v) / u) z
          generalize oft ((n - 1 - v) / u) q p = o at *
          have ov : o * u ≤ n - 1 - v := Nat.le_trans (Nat.mul_le_mul_right _ ol) (Nat.div_mul_le_self _ _)
          have on : o ≤ n := by
            have : o * 1 ≤ o * u := Nat.mul_le_mul_left _ u0
            omega
          have vo : u ≤ o * u := Nat.le_mul_of_pos_left _ (by omega)
          have k1 := mulD_i (show MulOk (o : Int) (p : Int) from mulOk_l (by omega) (by omega))
          have k2 := mulD_i (show MulOk (o : Int) (u : Int) from mulOk_l (by omega) (by omega))
          have hb := gw_left (a := aD) (m := mD) (u := (u : Int)) (v := (v : Int)) (c7 := c7) (by omega : ¬ (q : Int) < p) d1 d2 ho k1 k2
          have e2 : (q : Int) - o * p = ((q - o * p : Nat) : Int) := by
            rw [Int.natCast_sub (by omega), Int.natCast_mul]
          have e3 : (v : Int) + o * u = ((v + o * u : Nat) : Int) := by
            rw [Int.natCast_add, Int.natCast_mul]
          rw [e2, e3] at hb
          rw [while_t ht hb]
          exact gaps_loop hm hn hf k p (q - o * p) u (v + o * u) _ ⟨h.g.lefts o p q u v om, hu, by omega⟩ (by omega)
        · omega
    · refine ⟨p, q, u, v, c7, ?_, h, by omega⟩
      exact while_f (by rw [gt_r, decide_eq_false (by omega)])
/-! what is found -/
def eK (a m n : D) (p q u v : Int) (c7 : Option D) (ks vs : List D) (c9 c10 : Option D) : En := [some (.f a), some (.f m), some (.f n), some (.f (.int p)), some (.f (.int q)), some (.f (.int u)), some (.f (.int v)), c7.map .f, some (.k false false ks vs), c9.map .f, c10.map .f]
section
variable {a m n : D} {p q u v : Int} {c7 : Option D}
theorem getOrD_d (t : Bool) (ks vs : List D) (k x : D) : getOrD (.dict t ks vs) k x = if keyOk t k = true then .ok (match dFind ks vs k with
    | some d => d
    | none => x) else .no := rfl
theorem eqb_i (i j : Int) : D.eqb (.int i) (.int j) = (i == j) := by simp [D.eqb]
theorem gb_no {s c : Int} {ks vs : List D} (h : ¬ 0 < c) : m_gaps_b1 (eK a m n p q u v c7 ks vs (some (.int s)) (some (.int c))) = .nx (eK a m n p q u v c7 ks vs (some (.int s)) (some (.int c))) := by
  simp [m_gaps_b1, eK, h]
theorem gb_new {s c : Int} {ks vs : List D} (h : 0 < c) (h1 : dHas ks (.int s) = false) (h2 : dFind ks vs (.int s) = none) (hl : ks.length < 16000000) : m_gaps_b1 (eK a m n p q u v c7 ks vs (some (.int s)) (some (.int c))) = .nx (eK a m n p q u v c7 (ks ++ [.int s]) (vs ++ [.int c]) (some (.int s)) (some (.int c))) := by
  have g : getOrD (.dict false ks vs) (.int s) (.int 0) = .ok (.int 0) := by
    rw [getOrD_d, if_pos (show keyOk false (.int s) = true from rfl), h2]
  have k : keyOk false (.int s) = true := rfl
  have e1 : dPutK ks (.int s) = ks ++ [.int s] := by
    unfold dPutK
    rw [h1]
    rfl
  have e2 : ∀ d, dPutW ks vs (.int s) d = vs ++ [d] := fun d => by
    unfold dPutW
    rw [h1]
    rfl
  simp [m_gaps_b1, eK, h, g, k, e1, e2, hl, D.isDc]
theorem gb_old {s c x : Int} (h : 0 < c) : m_gaps_b1 (eK a m n p q u v c7 [.int s] [.int x] (some (.int s)) (some (.int c))) = .nx (eK a m n p q u v c7 [.int s] [.int (x + c)] (some (.int s)) (some (.int c))) := by
  have g : getOrD (.dict false [.int s] [.int x]) (.int s) (.int 0) = .ok (.int x) := by
    rw [getOrD_d, if_pos (show keyOk false (.int s) = true from rfl)]
    simp [dFind, D.eqb]
  have k : keyOk false (.int s) = true := rfl
  have h1 : dHas [.int s] (.int s) = true := by simp [dHas, D.eqb]
  have e1 : dPutK [.int s] (.int s) = [.int s] := by
    unfold dPutK
    rw [h1]
    rfl
  have e2 : ∀ d, dPutW [.int s] [.int x] (.int s) d = [d] := fun d => by
    unfold dPutW
    rw [h1]
    simp [dPutV, D.eqb]
  simp [m_gaps_b1, eK, h, g, k, e1, e2, D.isDc]
theorem gk_tg {s c : Int} {ks vs : List D} {c9 c10 : Option D} : tgT [(tgN 9), (tgN 10)] (.tuple [.int s, .int c]) (eK a m n p q u v c7 ks vs c9 c10) = .ok (eK a m n p q u v c7 ks vs (some (.int s)) (some (.int c))) := by
  cases c9 <;> cases c10 <;> simp [eK]
/-- the three put into the dict -/
theorem gk_loop {x y z : Int} (p0 : 0 < p) (q0 : 0 < q) (hx : 0 < x) (hy : 0 < y) : ∃ ps c9 c10, ps = (if p = q then [(p, x + y)] else [(p, x), (q, y)]) ++ (if 0 < z then [(p + q, z)] else []) ∧ loopL (tgT [(tgN 9), (tgN 10)]) m_gaps_b1 [.tuple [.int p, .int x], .tuple [.int q, .int y], .tuple [.int (p + q), .int z]] (eK a m n p q u v c7 [] [] none none) = .nx (eK a m n p q u v c7 ((ps.map (·.1)).map .int) ((ps.map (·.2)).map .int) c9 c10) := by
  have n1 : (p == p + q) = false := beq_eq_false_iff_ne.mpr (by omega)
  have n2 : (q == p + q) = false := beq_eq_false_iff_ne.mpr (by omega)
  rw [loop_nx gk_tg (gb_new hx rfl rfl (by simp))]
  by_cases e : p = q
  · subst e
    rw [List.nil_append, List.nil_append, loop_nx gk_tg (gb_old hy)]
    by_cases hz : 0 < z
    · rw [loop_nx gk_tg (gb_new hz (by simp only [dHas, List.any_cons, List.any_nil, eqb_i, n1, Bool.or_false]) (by simp only [dFind, eqb_i, n1]; rfl) (by simp))]
      exact ⟨_, some (.int (p + p)), some (.int z), rfl, by simp [hz]⟩
    · rw [loop_nx gk_tg (gb_no hz)]
      exact ⟨_, some (.int (p + p)), some (.int z), rfl, by simp [hz]⟩
  · have n3 : (p == q) = false := beq_eq_false_iff_ne.mpr e
    rw [List.nil_append, List.nil_append, loop_nx gk_tg (gb_new hy (by simp only [dHas, List.any_cons, List.any_nil, eqb_i, n3, Bool.or_false]) (by simp only [dFind, eqb_i, n3]; rfl) (by simp))]
    by_cases hz : 0 < z
    · rw [loop_nx gk_tg (gb_new hz (by simp only [dHas, List.singleton_append, List.any_cons, List.any_nil, eqb_i, n1, n2, Bool.or_false]) (by simp only [dFind, List.singleton_append, eqb_i, n1, n2]; rfl) (by simp))]
      exact ⟨_, some (.int (p + q)), some (.int z), rfl, by simp [hz, e]⟩
    · rw [loop_nx gk_tg (gb_no hz)]
      exact ⟨_, some (.int (p + q)), some (.int z), rfl, by simp [hz, e]⟩
end
theorem gs_one {a m : D} {t : En → Out} : sSeq (sIf (mBool (m2 eqD (mH (mN (mVar 2))) (mH (mN (mC (.int 1)))))) (sRet (mN (mTup (aCons (mTup (aCons (mVar 1) (aCons (mC (.int 1)) aNil))) aNil)))) sNext) t [some (.f a), some (.f m), some (.f (.int 1)), none, none, none, none, none, none, none, none] = .rt (.f (.tuple [.tuple [m, .int 1]])) [some (.f a), some (.f m), some (.f (.int 1)), none, none, none, none, none, none, none, none] := by
  simp
theorem gs_more {a m : D} {n : Int} (h : n ≠ 1) {t : En → Out} : sSeq (sIf (mBool (m2 eqD (mH (mN (mVar 2))) (mH (mN (mC (.int 1)))))) (sRet (mN (mTup (aCons (mTup (aCons (mVar 1) (aCons (mC (.int 1)) aNil))) aNil)))) sNext) t [some (.f a), some (.f m), some (.f (.int n)), none, none, none, none, none, none, none, none] = t [some (.f a), some (.f m), some (.f (.int n)), none, none, none, none, none, none, none, none] := by
  simp [h]
theorem gs_start {a m : Int} {n : D} (hm : 0 < m) : sTgt (tgT [(tgN 3), (tgN 4), (tgN 5), (tgN 6)]) (mTup (aCons (mZ (m2 modD (mH (mN (mVar 0))) (mH (mN (mVar 1))))) (aCons (mZ (m2 subD (mH (mN (mVar 1))) (mH (m2 modD (mH (mN (mVar 0))) (mH (mN (mVar 1))))))) (aCons (mC (.int 1)) (aCons (mC (.int 1)) aNil))))) [some (.f (.int a)), some (.f (.int m)), some (.f n), none, none, none, none, none, none, none, none] = .nx (eW (.int a) (.int m) n (a % m) (m - a % m) 1 1 none) := by
  have d := modD_i (i := a) hm
  generalize a % m = x at *
  simp [d, eW]
theorem gs_dict {a m n : D} {p q u v : Int} {c7 : Option D} : sAsg 8 (mDNew false) (eW a m n p q u v c7) = .nx (eK a m n p q u v c7 [] [] none none) := by
  simp [eW, eK]
theorem gs_items {a m : D} {n p q u v : Int} {c7 : Option D} : mSeqA (mTup (aCons (mTup (aCons (mVar 3) (aCons (mZ (m2 subD (mH (mN (mVar 2))) (mH (mN (mVar 5))))) aNil))) (aCons (mTup (aCons (mVar 4) (aCons (mZ (m2 subD (mH (mN (mVar 2))) (mH (mN (mVar 6))))) aNil))) (aCons (mTup (aCons (mZ (m2 addD (mH (mN (mVar 3))) (mH (mN (mVar 4))))) (aCons (mZ (m2 subD (mH (m2 addD (mH (mN (mVar 5))) (mH (mN (mVar 6))))) (mH (mN (mVar 2))))) aNil))) aNil)))) (eK a m (.int n) p q u v c7 [] [] none none) = .ok ([.tuple [.int p, .int (n - u)], .tuple [.int q, .int (n - v)], .tuple [.int (p + q), .int (u + v - n)]], eK a m (.int n) p q u v c7 [] [] none none) := by
  simp [eK]
theorem zip_maps : ∀ ps : List (Int × Int), (ps.map (·.1)).zip (ps.map (·.2)) = ps
  | [] => rfl
  | p :: ps => by rw [List.map_cons, List.map_cons, List.zip_cons_cons, zip_maps ps]
theorem gs_ret {a m n : D} {p q u v : Int} {c7 c9 c10 : Option D} {ps : List (Int × Int)} (hl : ps.length ≤ 4000) : sRet (mL tupleD (aCons (mH (mSortItems (mSl 8))) aNil)) (eK a m n p q u v c7 ((ps.map (·.1)).map .int) ((ps.map (·.2)).map .int) c9 c10) = .rt (.f (.tuple ((srtP ps).map pDD))) (eK a m n p q u v c7 ((ps.map (·.1)).map .int) ((ps.map (·.2)).map .int) c9 c10) := by
  have k := sortItemsD_i (a := ps.map (·.1)) (b := ps.map (·.2)) (by simp) (by simpa using hl)
  rw [zip_maps] at k
  generalize (ps.map (·.1)).map D.int = ks at *
  generalize (ps.map (·.2)).map D.int = vs at *
  generalize (srtP ps).map pDD = r at *
  simp [eK, k]
theorem run_rt {N : Nat} {mm : En → Out} {cs : List Ce} {e e' : En} {c : Ce} (h0 : startE N cs = e) (h1 : mm e = .rt c e') (h2 : owIx 0 cs = []) : runD N mm cs = .ok (c, []) := by
  rw [runD_r, h0, h1, h2]
  rfl
theorem gaps_one (a m : Int) : S_gaps [.f (.int a), .f (.int m), .f (.int 1)] = .ok (.f (.tuple [pDD (m, 1)]), []) := spN_r rfl (by
  unfold m_gaps
  exact run_rt rfl gs_one rfl)
theorem gaps_r {a m n : Nat} (hm0 : 0 < m) (hm : m < 2 ^ 160) (hn2 : 2 ≤ n) (hn : n < 100000) (hf : Far a m n) : ∃ p q u v, G3 a m p q u v ∧ u < n ∧ v < n ∧ n ≤ u + v ∧ S_gaps [.f (.int (a : Int)), .f (.int (m : Int)), .f (.int (n : Int))] = .ok (.f (.tuple ((srtP (gps p q u v n)).map pDD)), []) := by
  have r1 : R a m 1 = a % m := by unfold R; rw [Nat.one_mul]
  have a0 : 0 < a % m := by
    have := hf 1 (Nat.le_refl _) (by omega)
    rw [r1] at this
    omega
  have am := Nat.mod_lt a hm0
  have g0 : G3 a m (a % m) (m - a % m) 1 1 := by
    have g := G3.start a0 am
    refine ⟨g.m0, g.u0, g.v0, g.p0, g.q0, ?_, ?_, g.ms, fun t t1 t2 => ?_⟩
    · rw [← R_mod]; exact g.ru
    · rw [← R_mod]; exact g.rv
    · rw [← R_mod]; exact g.lo t t1 t2
  obtain ⟨p, q, u, v, c7, w1, w2, w3⟩ := gaps_loop (aD := .int (a : Int)) (mD := .int (m : Int)) hm hn hf (2 * n) (a % m) (m - a % m) 1 1 none ⟨g0, by omega, by omega⟩ (by omega)
  have hu := w2.un
  have hv := w2.vn
  have p0 := w2.g.p0
  have q0 := w2.g.q0
  obtain ⟨ps, c9, c10, e1, e2⟩ := gk_loop (a := .int (a : Int)) (m := .int (m : Int)) (n := .int (n : Int)) (p := (p : Int)) (q := (q : Int)) (u := (u : Int)) (v := (v : Int)) (c7 := c7) (x := (n : Int) - u) (y := (n : Int) - v) (z := (u : Int) + v - n) (by omega) (by omega) (by omega) (by omega)
  have eg : ps = gps p q u v n := by
    rw [e1]
    unfold gps
    have i1 : ((p : Int) = q) = (p = q) := by rw [Int.ofNat_inj]
    have i2 : (0 < (u : Int) + v - n) = (n < u + v) := by
      apply propext
      omega
    simp only [i1, i2]
  have hl : ps.length ≤ 4000 := by
    rw [eg]
    unfold gps
    split <;> split <;> simp
  refine ⟨p, q, u, v, w2.g, hu, hv, w3, spN_r rfl ?_⟩
  rw [← eg]
  refine run_rt (e := [some (.f (.int (a : Int))), some (.f (.int (m : Int))), some (.f (.int (n : Int))), none, none, none, none, none, none, none, none]) rfl ?_ rfl (e' := eK (.int (a : Int)) (.int (m : Int)) (.int (n : Int)) p q u v c7 ((ps.map (·.1)).map .int) ((ps.map (·.2)).map .int) c9 c10)
  unfold m_gaps
  have s1 := gs_start (a := (a : Int)) (m := (m : Int)) (n := .int (n : Int)) (by omega)
  have em : (m : Int) - (a : Int) % m = ((m - a % m : Nat) : Int) := by
    rw [Int.natCast_sub (Nat.le_of_lt am), Int.natCast_emod]
  rw [em, ← Int.natCast_emod] at s1
  rw [show ((1 : Nat) : Int) = 1 from rfl] at w1
  rw [gs_more (by omega), seq_nx s1, seq_nx w1, seq_nx gs_dict, seq_nx ((for_rD gs_items).trans e2), gs_ret hl]
end Lk23

namespace Lk23
open PySem L2 DL PyProof.Rows Md Sh ShW ShN
/-! ### the law's own gaps -/
noncomputable def S_law_gaps : Sf := spN 3 8 m_law_gaps
theorem sem_law_gaps : ∀ cs c outs, S_law_gaps cs = .ok (c, outs) → cs.length = 3 ∧ runD 8 m_law_gaps cs = .ok (c, outs) := spN_sem
theorem getD_at {X : List Int} {i : Nat} (hi : i < X.length) : (X.map D.int)[i]? = some (.int (X.getD i 0)) := by
  rw [List.getElem?_map, List.getD_eq_getElem?_getD, List.getElem?_eq_getElem hi]
  rfl
theorem ixD_last {X : List Int} (h : 0 < X.length) : ixD (.list (X.map .int)) (.int (-1)) = .ok (.f (.int (X.getD (X.length - 1) 0))) := by
  have e1 : ixN X.length (-1) = some (X.length - 1) := by
    unfold ixN
    rw [if_neg (by decide), if_pos (by omega)]
    congr 1
    omega
  have : atI (X.map D.int) (-1) = some (.int (X.getD (X.length - 1) 0)) := by
    unfold atI
    rw [List.length_map, e1]
    exact getD_at (by omega)
  rw [ixD_l, this]
def eA (a m n : Nat) (c3 c4 c5 c6 c7 : Option D) : En := [some (.f (.int (a : Int))), some (.f (.int (m : Int))), some (.f (.int (n : Int))), c3.map .f, c4.map .f, c5.map .f, c6.map .f, c7.map .f]
def pickF (s : Int) : D → Option D
  | .int t => if t = s then some (.int t) else none
  | _ => none
theorem fm_ints (s : Int) : ∀ S : List Int, (S.map D.int).filterMap (pickF s) = (S.filter fun t => decide (t = s)).map D.int
  | [] => rfl
  | t :: S => by
    rw [List.map_cons]
    by_cases h : t = s
    · rw [List.filterMap_cons_some (b := D.int t) (by simp [pickF, h]), List.filter_cons_of_pos (by simpa using h), List.map_cons, fm_ints s S]
    · rw [List.filterMap_cons_none (by simp [pickF, h]), List.filter_cons_of_neg (by simpa using h), fm_ints s S]
section
variable {a m n : Nat}
theorem lg_c1 (hm0 : 0 < m) (ha : a < 2 ^ 60) (hn : n < 1000) : mComp (mRng1 (aCons (mVar 2) aNil)) (tgN 5) [5] mYes m_law_gaps_e1 (eA a m n none none none none none) = .ok (.l false ((restI a m n).map .int), eA a m n none none none none none) := by
  unfold restI
  rw [List.map_map]
  refine comp_rg (n := n) _ (by simp [eA]) (tgOk_n 5) (by simp) (by simp [eA]) (hz_of (by omega)) fun k hk => ?_
  have w1 := mulD_i (show MulOk (k : Int) (a : Int) from mulOk_r' (by omega) (by omega))
  have d1 := modD_i (i := (k : Int) * (a : Int)) (j := (m : Int)) (by omega)
  have e : ((R a m k : Nat) : Int) = (k : Int) * a % m := by unfold R; rw [Int.natCast_emod, Int.natCast_mul]
  refine ⟨eA a m n none none (some (.int (k : Int))) none none, by simp [wipeE, eA], ?_⟩
  show _ = Rs.ok (D.int ((R a m k : Nat) : Int), _)
  rw [e]
  generalize (k : Int) * a % m = x at *
  simp [m_law_gaps_e1, eA, w1, d1]
theorem lg_s1 {z : M Ce} {is : List Int} (hz : z (eA a m n none none none none none) = .ok (.l false (is.map .int), eA a m n none none none none none)) (hl : is.length ≤ 4000) : sAsgF 3 (mZ (mSortSet (mZ z))) (eA a m n none none none none none) = .nx (eA a m n (some (.list ((srtU is).map .int))) none none none none) := by
  have k := sortSetD_i hl
  simp only [eA, Option.map_none] at hz
  generalize is.map D.int = ds at *
  generalize (srtU is).map D.int = es at *
  simp [eA, hz, k]
theorem lg_c2 {X : List Int} (h : 0 < X.length) (hl : X.length < 1000) : mComp (mRng1 (aCons (mZ (m2 subD (mH (mL lenD (aCons (mH (mN (mVar 3))) aNil))) (mH (mN (mC (.int 1)))))) aNil)) (tgN 5) [5] mYes m_law_gaps_e2 (eA a m n (some (.list (X.map .int))) none none none none) = .ok (.l false (((List.range (X.length - 1)).map fun k => X.getD (k + 1) 0 - X.getD k 0).map .int), eA a m n (some (.list (X.map .int))) none none none none) := by
  rw [List.map_map]
  refine comp_rg (n := X.length - 1) _ ?_ (tgOk_n 5) (by simp) (by simp [eA]) (hz_of (by omega)) fun k hk => ?_
  · have e : (X.map D.int).length = X.length := by simp
    have e2 : (X.length : Int) - 1 = ((X.length - 1 : Nat) : Int) := by omega
    rw [← e2, ← e]
    generalize X.map D.int = ds at *
    simp [eA]
  · have d1 := getD_at (X := X) (i := k) (by omega)
    have d2 := getD_at (X := X) (i := k + 1) (by omega)
    have x1 := ixD_ln d1
    have x2 := ixD_ln d2
    rw [show ((k + 1 : Nat) : Int) = (k : Int) + 1 from by omega] at x2
    refine ⟨eA a m n (some (.list (X.map .int))) none (some (.int (k : Int))) none none, by simp [wipeE, eA], ?_⟩
    show _ = Rs.ok (D.int (X.getD (k + 1) 0 - X.getD k 0), _)
    generalize X.map D.int = ds at *
    generalize X.getD (k + 1) 0 = g1 at *
    generalize X.getD k 0 = g2 at *
    simp [m_law_gaps_e2, eA, x1, x2]
theorem lg_last {X : List Int} (h : 0 < X.length) : mLst (aCons (mZ (m2 subD (mH (m2 addD (mH (m2 ixD (mH (mN (mVar 3))) (mH (mN (mC (.int 0)))))) (mH (mN (mVar 1))))) (mH (m2 ixD (mH (mN (mVar 3))) (mH (m1 negD (mH (mN (mC (.int 1)))))))))) aNil) (eA a m n (some (.list (X.map .int))) none none none none) = .ok (.l false [.int (X.getD 0 0 + m - X.getD (X.length - 1) 0)], eA a m n (some (.list (X.map .int))) none none none none) := by
  have x1 := ixD_ln (getD_at (X := X) (i := 0) h)
  have x2 := ixD_last h
  rw [show ((0 : Nat) : Int) = 0 from rfl] at x1
  generalize X.map D.int = ds at *
  generalize X.getD 0 0 = g1 at *
  generalize X.getD (X.length - 1) 0 = g2 at *
  simp [eA, x1, x2]
theorem lg_s2 {z y : M Ce} {d : D} {us vs : List D} (hz : z (eA a m n (some d) none none none none) = .ok (.l false us, eA a m n (some d) none none none none)) (hy : y (eA a m n (some d) none none none none) = .ok (.l false vs, eA a m n (some d) none none none none)) (hl : us.length + vs.length ≤ 10000) : sAsgF 4 (mZ (m2 addD (mH z) (mH y))) (eA a m n (some d) none none none none) = .nx (eA a m n (some d) (some (.list (us ++ vs))) none none none) := by
  have k : addD (.list us) (.list vs) = .ok (.l false (us ++ vs)) := by
    unfold addD
    exact if_pos (by rw [sizeLine_eq]; omega)
  simp only [eA, Option.map_none, Option.map_some] at hz hy
  simp [eA, hz, hy, k]
theorem lg_inner {S : List Int} {d : D} {s : Int} (hl : S.length < 10000) : mComp (mSeqA (mVar 4)) (tgN 7) [7] m_law_gaps_c1 m_law_gaps_e3 (eA a m n (some d) (some (.list (S.map .int))) none (some (.int s)) none) = .ok (.l false ((S.filter fun t => decide (t = s)).map .int), eA a m n (some d) (some (.list (S.map .int))) none (some (.int s)) none) := by
  rw [← fm_ints]
  refine mComp_pure (is := [7]) (pickF s) (by simp [eA]) (tgOk_n 7) (by simp) (by simp [eA]) (hz_of (by rw [List.length_map]; omega)) fun x hx => ?_
  obtain ⟨t, _, rfl⟩ := List.mem_map.mp hx
  refine ⟨eA a m n (some d) (some (.list (S.map .int))) none (some (.int s)) (some (.int t)), by simp [wipeE, eA], ?_, ?_⟩
  · generalize S.map D.int = ds at *
    by_cases h : t = s
    · simp [m_law_gaps_c1, eA, h, pickF]
    · simp [m_law_gaps_c1, eA, h, pickF]
  · intro y hy
    have hy : (if t = s then some (D.int t) else none) = some y := hy
    by_cases h : t = s
    · rw [if_pos h] at hy
      cases hy
      generalize S.map D.int = ds at *
      simp [m_law_gaps_e3, eA]
    · rw [if_neg h] at hy
      cases hy
theorem lg_elt {S : List Int} {d : D} {s : Int} (hl : S.length < 10000) : m_law_gaps_e4 (eA a m n (some d) (some (.list (S.map .int))) none (some (.int s)) none) = .ok (pDD (s, cntI S s), eA a m n (some d) (some (.list (S.map .int))) none (some (.int s)) none) := by
  have hz := lg_inner (a := a) (m := m) (n := n) (d := d) (s := s) hl
  have key : ∀ {z : M Ce} {e : En} {us : List D} {s : Int}, e[6]? = some (some (.f (.int s))) → z e = .ok (.l false us, e) → mTup (aCons (mVar 6) (aCons (mZ (mL lenD (aCons (mH z) aNil))) aNil)) e = .ok (.tuple [.int s, .int us.length], e) := fun {z e us s} h6 hz => by simp [h6, hz]
  have k := key (s := s) rfl hz
  unfold cntI pDD
  rw [List.length_map] at k
  exact k
theorem lg_c3 {S : List Int} {d : D} (hl : S.length < 4000) : mComp (mSeqA (mZ (mSortSet (mVar 4)))) (tgN 6) [6] mYes m_law_gaps_e4 (eA a m n (some d) (some (.list (S.map .int))) none none none) = .ok (.l false ((srtU S).map fun s => pDD (s, cntI S s)), eA a m n (some d) (some (.list (S.map .int))) none none none) := by
  have ul : (srtU S).length ≤ S.length := by
    clear hl
    induction S with
    | nil => exact Nat.le_refl _
    | cons t S ih =>
      have : ∀ (k : Int) (xs : List Int), (insU k xs).length ≤ xs.length + 1 := fun k xs => by
        induction xs with
        | nil => simp [insU]
        | cons x xs ih2 =>
          unfold insU
          split
          · simp
          · split
            · simp
            · simpa using ih2
      have := this t (srtU S)
      show (insU t (srtU S)).length ≤ S.length + 1
      omega
  refine mComp_of (srtU S) D.int _ ?_ (tgOk_n 6) (by simp) (by simp [eA]) (hz_of (by omega)) fun s hs => ?_
  · have k := sortSetD_i (is := S) (by omega)
    generalize S.map D.int = ds at *
    generalize (srtU S).map D.int = es at *
    simp [eA, k]
  · refine ⟨eA a m n (some d) (some (.list (S.map .int))) none (some (.int s)) none, ?_, lg_elt (by omega)⟩
    generalize S.map D.int = ds at *
    simp [wipeE, eA]
theorem lg_ret {z : M Ce} {e : En} {us : List D} (hz : z e = .ok (.l false us, e)) : sRet (mL tupleD (aCons (mH z) aNil)) e = .rt (.f (.tuple us)) e := by
  simp [hz]
theorem restI_len : (restI a m n).length = n := by simp [restI]
theorem srt_le : ∀ S : List Int, (srtU S).length ≤ S.length
  | [] => Nat.le_refl _
  | t :: S => by
    have : ∀ (k : Int) (xs : List Int), (insU k xs).length ≤ xs.length + 1 := fun k xs => by
      induction xs with
      | nil => simp [insU]
      | cons x xs ih2 =>
        unfold insU
        split
        · simp
        · split
          · simp
          · simpa using ih2
    have := this t (srtU S)
    have := srt_le S
    show (insU t (srtU S)).length ≤ S.length + 1
    omega
theorem law_gaps_r (hm0 : 0 < m) (ha : a < 2 ^ 60) (hn0 : 0 < n) (hn : n < 1000) : S_law_gaps [.f (.int (a : Int)), .f (.int (m : Int)), .f (.int (n : Int))] = .ok (.f (.tuple ((srtU (sizesI m (srtU (restI a m n)))).map fun s => pDD (s, cntI (sizesI m (srtU (restI a m n))) s))), []) := by
  have hx : 0 < (srtU (restI a m n)).length := by
    have h0 : ((R a m 0 : Nat) : Int) ∈ srtU (restI a m n) := mem_srtU.mpr (List.mem_map.mpr ⟨0, List.mem_range.mpr hn0, rfl⟩)
    exact List.length_pos_of_mem h0
  have hl := srt_le (restI a m n)
  rw [restI_len] at hl
  have hs : (sizesI m (srtU (restI a m n))).length = (srtU (restI a m n)).length := by
    unfold sizesI
    rw [List.length_append, List.length_map, List.length_range, List.length_singleton]
    omega
  refine spN_r rfl ?_
  refine run_rt (e := eA a m n none none none none none) rfl ?_ rfl (e' := eA a m n (some (.list ((srtU (restI a m n)).map .int))) (some (.list ((sizesI m (srtU (restI a m n))).map .int))) none none none)
  unfold m_law_gaps
  have e : ((List.range ((srtU (restI a m n)).length - 1)).map fun k => (srtU (restI a m n)).getD (k + 1) 0 - (srtU (restI a m n)).getD k 0).map D.int ++ [D.int ((srtU (restI a m n)).getD 0 0 + m - (srtU (restI a m n)).getD ((srtU (restI a m n)).length - 1) 0)] = (sizesI m (srtU (restI a m n))).map D.int := by
    unfold sizesI
    rw [List.map_append]
    rfl
  have s2 := lg_s2 (lg_c2 (a := a) (m := m) (n := n) hx (by omega)) (lg_last hx) (by simp; omega)
  rw [e] at s2
  rw [seq_nx (lg_s1 (lg_c1 hm0 ha hn) (by rw [restI_len]; omega)), seq_nx s2, lg_ret (lg_c3 (by omega))]
end
end Lk23

namespace Lk23
open PySem L2 DL PyProof.Rows Md Sh ShW ShN
/-! ### plain facts for the law: the drift -/
theorem rise_ne {a b c : Nat} {p : Int} {q : Nat} {B : Int} (hb : 0 < b) (hr : rise a b p q ≠ 0) : ¬ IsL (Off a b c p q B) none := fun h => by
  have h1 := eo_pers (a := a) (b := b) (c := c) (p := p) (q := q) hb 0 (B.natAbs + (eo a b c p q 0).natAbs + 1)
  refine h (0 + (B.natAbs + (eo a b c p q 0).natAbs + 1) * yr a b) ?_
  unfold Off
  rw [h1]
  generalize eo a b c p q 0 = x
  generalize rise a b p q = r at *
  rcases Int.lt_or_le r 0 with z | z
  · have : ((B.natAbs + x.natAbs + 1 : Nat) : Int) * r ≤ ((B.natAbs + x.natAbs + 1 : Nat) : Int) * (-1) := Int.mul_le_mul_of_nonneg_left (by omega) (by omega)
    omega
  · have : ((B.natAbs + x.natAbs + 1 : Nat) : Int) * 1 ≤ ((B.natAbs + x.natAbs + 1 : Nat) : Int) * r := Int.mul_le_mul_of_nonneg_left (by omega) (by omega)
    omega
theorem off_mod {a b c : Nat} {p : Int} {q : Nat} {B : Int} (hb : 0 < b) (hr : rise a b p q = 0) (n : Nat) : Off a b c p q B n ↔ Off a b c p q B (n % yr a b) := by
  have := eo_mod (a := a) (b := b) (c := c) (p := p) (q := q) hb n
  rw [hr, Int.mul_zero, Int.add_zero] at this
  unfold Off
  rw [this]
theorem off_lt {a b c : Nat} {p : Int} {q : Nat} {B : Int} (hb : 0 < b) (hr : rise a b p q = 0) {k : Nat} (h : IsL (Off a b c p q B) (some k)) : k < b := by
  have y0 := yr_pos (a := a) hb
  have yl := yr_le a b
  have hm := Nat.mod_lt k y0
  rcases Nat.lt_or_ge k (yr a b) with z | z
  · omega
  · exact (h.2 (k % yr a b) (by omega) ((off_mod hb hr k).mp h.1)).elim
/-- a ratio in lowest terms, as both numbers -/
structure Lo (a b : Nat) (a' b' : Nat) : Prop where
  e : redI (a : Int) (b : Int) = ((a' : Int), (b' : Int))
  ea : a = Nat.gcd a b * a'
  eb : b = Nat.gcd a b * b'
  g0 : 0 < Nat.gcd a b
  b0 : 0 < b'
  co : Nat.gcd a' b' = 1
theorem lo_ex {a b : Nat} (hb : 0 < b) : ∃ a' b', Lo a b a' b' := by
  have g0 := Nat.gcd_pos_of_pos_right a hb
  have e1 : a = Nat.gcd a b * (a / Nat.gcd a b) := (Nat.mul_div_cancel' (Nat.gcd_dvd_left a b)).symm
  have e2 : b = Nat.gcd a b * (b / Nat.gcd a b) := (Nat.mul_div_cancel' (Nat.gcd_dvd_right a b)).symm
  refine ⟨a / Nat.gcd a b, b / Nat.gcd a b, rfl, e1, e2, g0, Nat.div_pos (Nat.le_of_dvd hb (Nat.gcd_dvd_right a b)) g0, Nat.gcd_div_gcd_div_gcd_of_pos_right hb⟩
theorem Lo.rise {a b a' b' : Nat} (h : Lo a b a' b') {p : Int} {q : Nat} : rise a b p q = (b' : Int) * p - q * a' := by
  have hb : 0 < b := by
    have := Nat.mul_pos h.g0 h.b0
    have := h.eb
    omega
  have e1 : a / Nat.gcd a b = a' := by
    conv => lhs; lhs; rw [h.ea]
    exact Nat.mul_div_cancel_left _ h.g0
  have e2 : yr a b = b' := by
    unfold yr
    conv => lhs; lhs; rw [h.eb]
    exact Nat.mul_div_cancel_left _ h.g0
  unfold Lk23.rise
  rw [yr_div hb, e1, e2]
/-- the sky's year: the ratio and a little -/
structure Sky (a b a' b' : Nat) (x : Int) (y : Nat) (p : Int) (q : Nat) : Prop where
  lo : Lo a b a' b'
  e : redI ((a' : Int) * y + x * b') ((b' : Int) * y) = (p, (q : Int))
  d : ∃ d : Int, 0 < d ∧ (a' : Int) * y + x * b' = d * p ∧ (b' : Int) * y = d * q
  q0 : 0 < q
theorem sky_ex {a b a' b' : Nat} (h : Lo a b a' b') (x : Int) {y : Nat} (hy : 0 < y) : ∃ p q, Sky a b a' b' x y p q := by
  have hb : 0 < (b' : Int) * y := Int.mul_pos (by have := h.b0; omega) (by omega)
  obtain ⟨d, p, q, e1, e2, e3, e4, e5⟩ := red_parts (A := (a' : Int) * y + x * b') hb
  obtain ⟨q', rfl⟩ := Int.eq_ofNat_of_zero_le (Int.le_of_lt e5)
  exact ⟨p, q', h, e1, ⟨d, e4, e2, e3⟩, by omega⟩
theorem Sky.rise {a b a' b' : Nat} {x : Int} {y : Nat} {p : Int} {q : Nat} (h : Sky a b a' b' x y p q) : ∃ d : Int, 0 < d ∧ (b' : Int) * y = d * q ∧ d * Lk23.rise a b p q = x * (b' * b') := by
  obtain ⟨d, d0, e1, e2⟩ := h.d
  refine ⟨d, d0, e2, ?_⟩
  rw [h.lo.rise, Int.mul_sub, Int.mul_left_comm, ← e1, ← Int.mul_assoc, ← e2, Int.mul_add]
  have l1 : (b' : Int) * ((a' : Int) * y) = b' * y * a' := by ac_rfl
  have l2 : (b' : Int) * (x * b') = x * (b' * b') := by ac_rfl
  rw [l1, l2]
  omega
theorem Sky.rise0 {a b a' b' : Nat} {x : Int} {y : Nat} {p : Int} {q : Nat} (h : Sky a b a' b' x y p q) : Lk23.rise a b p q = 0 ↔ x = 0 := by
  obtain ⟨d, d0, _, e⟩ := h.rise
  have b0 := h.lo.b0
  constructor
  · intro z
    rw [z, Int.mul_zero] at e
    have hb : (0 : Int) < b' * b' := Int.mul_pos (by omega) (by omega)
    rcases Int.mul_eq_zero.mp e.symm with z | z
    · exact z
    · omega
  · intro z
    rw [z, Int.zero_mul] at e
    rcases Int.mul_eq_zero.mp e with z | z
    · omega
    · exact z
theorem Lo.same {a b a' b' : Nat} (h : Lo a b a' b') : redI (a' : Int) (b' : Int) = ((a' : Int), (b' : Int)) := by
  unfold redI
  have : (Int.gcd (a' : Int) (b' : Int)) = 1 := h.co
  rw [this]
  simp
theorem Sky.same {a b a' b' : Nat} {p : Int} {q : Nat} (h : Sky a b a' b' 0 1 p q) : p = a' ∧ q = b' := by
  have e := h.e
  rw [Int.zero_mul, Int.add_zero, show ((1 : Nat) : Int) = 1 from rfl, Int.mul_one, Int.mul_one, h.lo.same] at e
  have e1 := congrArg Prod.fst e
  have e2 := congrArg Prod.snd e
  simp only at e1 e2
  omega
theorem Sky.zero {a b a' b' : Nat} {x : Int} {y : Nat} {p : Int} {q : Nat} (h : Sky a b a' b' x y p q) (hp : p = a') (hq : q = b') : Lk23.rise a b p q = 0 := by
  rw [h.lo.rise, hp, hq]
  omega
theorem Sky.sizes {a b a' b' : Nat} {x : Int} {y : Nat} {p : Int} {q : Nat} (h : Sky a b a' b' x y p q) (ha : a ≤ 40) (hb : b ≤ 40) (hx : -1 ≤ x ∧ x ≤ 1) (hy : y ≤ 40) : -100000 < p ∧ p < 100000 ∧ q < 100000 := by
  obtain ⟨d, d0, e1, e2⟩ := h.d
  have la : a' ≤ a := by have := h.lo.ea; have : 1 * a' ≤ Nat.gcd a b * a' := Nat.mul_le_mul_right _ h.lo.g0; omega
  have lb : b' ≤ b := by have := h.lo.eb; have : 1 * b' ≤ Nat.gcd a b * b' := Nat.mul_le_mul_right _ h.lo.g0; omega
  have m1 : (a' : Int) * y ≤ 40 * 40 := Int.mul_le_mul (by omega) (by omega) (by omega) (by omega)
  have m2 : (b' : Int) * y ≤ 40 * 40 := Int.mul_le_mul (by omega) (by omega) (by omega) (by omega)
  have m0 : 0 ≤ (a' : Int) * y := Int.mul_nonneg (by omega) (by omega)
  have m3 : x * (b' : Int) ≤ 40 := by
    have : x * (b' : Int) ≤ 1 * b' := Int.mul_le_mul_of_nonneg_right hx.2 (by omega)
    omega
  have m4 : -40 ≤ x * (b' : Int) := by
    have : (-1) * (b' : Int) ≤ x * b' := Int.mul_le_mul_of_nonneg_right hx.1 (by omega)
    omega
  refine ⟨?_, ?_, ?_⟩
  · rcases Int.lt_or_le p 0 with z | z
    · have : (d - 1) * p ≤ 0 := Int.mul_nonpos_of_nonneg_of_nonpos (by omega) (by omega)
      rw [Int.sub_mul] at this
      omega
    · omega
  · rcases Int.lt_or_le p 0 with z | z
    · omega
    · have : 0 ≤ (d - 1) * p := Int.mul_nonneg (by omega) z
      rw [Int.sub_mul] at this
      omega
  · have : 0 ≤ (d - 1) * (q : Int) := Int.mul_nonneg (by omega) (by omega)
    rw [Int.sub_mul] at this
    omega
/-- off by a tenth of a day a year: not later than this -/
theorem late_le {a b c a' b' : Nat} {p : Int} {q e0 : Nat} (h : Sky a b a' b' 1 10 p q) (hc : c < b) {n : Nat} (hn : 10 * (e0 + 2) ≤ n) : Off a b c p q (bd q e0 1) n := by
  left
  obtain ⟨d, d0, e1, e2⟩ := h.d
  have b0 := h.lo.b0
  have hb : 0 < b := by omega
  have hq := h.q0
  have eb := h.lo.eb
  have ea := h.lo.ea
  have g0 := h.lo.g0
  generalize Nat.gcd a b = g at *
  unfold bd eo
  rw [show ((1 : Nat) : Int) = 1 from rfl, Int.ediv_one]
  have hf := Int.ediv_mul_le ((a : Int) * n + c) (show (b : Int) ≠ 0 by omega)
  generalize ((a : Int) * n + c) / (b : Int) = t at *
  -- times d b
  have key : d * b * ((e0 : Int) * q) < d * b * ((n : Int) * p - q * t) := by
    have k1 : d * b * ((e0 : Int) * q) = b * (e0 * (10 * b')) := by
      rw [show d * b * ((e0 : Int) * q) = b * (e0 * (d * q)) by ac_rfl, ← e2]
      ac_rfl
    have k2 : d * b * ((n : Int) * p - q * t) = b * (n * (d * p)) - (d * q) * (t * b) := by
      rw [Int.mul_sub, show d * b * ((n : Int) * p) = b * (n * (d * p)) by ac_rfl, show d * b * ((q : Int) * t) = (d * q) * (t * b) by ac_rfl]
    rw [k1, k2, ← e1, ← e2]
    have k3 : ((b' : Int) * (10 : Nat)) * (t * b) ≤ ((b' : Int) * (10 : Nat)) * ((a : Int) * n + c) := Int.mul_le_mul_of_nonneg_left hf (by omega)
    have k4 : ((b' : Int) * (10 : Nat)) * ((a : Int) * n + c) = b * (n * ((a' : Int) * (10 : Nat))) + (b' : Int) * (10 : Nat) * c := by
      rw [Int.mul_add]
      congr 1
      have x1 : (a : Int) = g * a' := by exact_mod_cast ea
      have x2 : (b : Int) = g * b' := by exact_mod_cast eb
      rw [x1, x2]
      ac_rfl
    have k5 : (b : Int) * (n * ((a' : Int) * (10 : Nat) + 1 * b')) = b * (n * ((a' : Int) * (10 : Nat))) + b * (n * b') := by
      rw [Int.one_mul, Int.mul_add, Int.mul_add]
    rw [k5]
    have k6 : (b' : Int) * (10 : Nat) * c ≤ (b' : Int) * (10 : Nat) * b := Int.mul_le_mul_of_nonneg_left (by omega) (by omega)
    have k7 : (b : Int) * (e0 * (10 * b')) + (b' : Int) * (10 : Nat) * b = (b * b') * (10 * (e0 + 1)) := by
      rw [Int.mul_add 10, Int.mul_add (_ * _), show (b : Int) * (e0 * (10 * b')) = b * b' * (10 * e0) by ac_rfl, show (b' : Int) * (10 : Nat) * b = b * b' * (10 * 1) by ac_rfl]
    have k8 : (b : Int) * (n * b') = (b * b') * n := by ac_rfl
    have k9 : (b : Int) * b' * (10 * (e0 + 1)) < b * b' * n := Int.mul_lt_mul_of_pos_left (by omega) (Int.mul_pos (by omega) (by omega))
    omega
  exact Int.lt_of_mul_lt_mul_left key (Int.mul_nonneg (by omega) (by omega))
/-! the firsts in lists -/
theorem head_least {P : Nat → Bool} {m : Nat} : ∀ {o : Option Nat}, IsL (fun n => P n = true) o → (∀ k, o = some k → k < m) → ((List.range m).filter P).head? = o := by
  intro o h hk
  cases o with
  | none =>
    rw [List.filter_eq_nil_iff.mpr]
    · rfl
    · intro n _
      exact h n
  | some k =>
    have hk := hk k rfl
    have e : List.range m = List.range k ++ (k :: List.range' (k + 1) (m - k - 1)) := by
      rw [List.range_eq_range', List.range_eq_range', ← List.range'_succ, show m - k - 1 + 1 = m - k by omega]
      have := List.range'_append_1 (s := 0) (m := k) (n := m - k)
      rw [Nat.zero_add, show k + (m - k) = m by omega] at this
      exact this.symm
    rw [e, List.filter_append, List.filter_eq_nil_iff.mpr, List.nil_append, List.filter_cons_of_pos h.1]
    · rfl
    · intro n hn
      have := h.2 n (List.mem_range.mp hn)
      simpa using this
/-! no round within the first of them -/
theorem len_lt : ∀ (t : Nat) (l : List Nat), l.Nodup → (∀ x ∈ l, x < t) → l.length ≤ t
  | 0, [], _, _ => Nat.le_refl _
  | 0, x :: l, _, h => by have := h x List.mem_cons_self; omega
  | t + 1, l, hd, h => by
    by_cases ht : t ∈ l
    · have := len_lt t (l.erase t) (hd.erase t) fun x hx => by
        have h1 := h x (List.mem_of_mem_erase hx)
        have h2 : x ≠ t := fun e => by
          subst e
          exact (hd.not_mem_erase) hx
        omega
      rw [List.length_erase_of_mem ht] at this
      omega
    · have := len_lt t l hd fun x hx => by
        have h1 := h x hx
        have h2 : x ≠ t := fun e => ht (e ▸ hx)
        omega
      omega
theorem R_round {a m t : Nat} (hm : 0 < m) (h : R a m t = 0) (k : Nat) : R a m k = R a m (k % t) := by
  have : ∀ j, R a m (t * j) = 0 := fun j => by
    unfold R at *
    rw [Nat.mul_comm t j, Nat.mul_assoc, Nat.mul_mod, h, Nat.mul_zero, Nat.zero_mod]
  have e := R_add a m (t * (k / t)) (k % t)
  rw [Nat.div_add_mod, this, Nat.zero_add, Nat.mod_eq_of_lt (R_lt hm)] at e
  exact e
theorem far_small {a m n : Nat} (hm : 0 < m) (hn : n ≤ (srtU (restI a m m)).length) : Far a m n := fun t t1 t2 h => by
  have sub : ∀ x ∈ srtU (restI a m m), x ∈ restI a m t := fun x hx => by
    obtain ⟨k, hk, rfl⟩ := List.mem_map.mp (mem_srtU.mp hx)
    rw [R_round hm h]
    exact List.mem_map.mpr ⟨k % t, List.mem_range.mpr (Nat.mod_lt _ (by omega)), rfl⟩
  have := len_lt t ((srtU (restI a m m)).map (who a m t)) (by
    rw [List.Nodup, List.pairwise_map]
    refine List.Pairwise.imp_of_mem (fun {x y} hx hy hxy e => ?_) (pw_nodup (srtU_pw _))
    have h1 := (who_ok (sub x hx)).2
    have h2 := (who_ok (sub y hy)).2
    rw [e, h2] at h1
    exact hxy h1.symm) fun x hx => by
    obtain ⟨y, hy, rfl⟩ := List.mem_map.mp hx
    exact (who_ok (sub y hy)).1
  rw [List.length_map] at this
  omega
theorem far_great {a m n : Nat} (hc : Nat.gcd a m = 1) (hn : n ≤ m) : Far a m n := fun t t1 t2 h => by
  unfold R at h
  have hd : m ∣ t * a := Nat.dvd_of_mod_eq_zero h
  have : m ∣ t := (Nat.Coprime.dvd_of_dvd_mul_right (show Nat.Coprime m a from by rw [Nat.coprime_comm]; exact hc) hd)
  have := Nat.le_of_dvd (by omega) this
  omega
/-! what gaps tells, sorted -/
theorem gps_srt {p q u v n : Nat} (hp : 0 < p) (hq : 0 < q) : srtP (gps p q u v n) = (if p = q then [((p : Int), (n : Int) - u + (n - v))] else if p < q then [((p : Int), (n : Int) - u), ((q : Int), (n : Int) - v)] else [((q : Int), (n : Int) - v), ((p : Int), (n : Int) - u)]) ++ if n < u + v then [((p : Int) + q, (u : Int) + v - n)] else [] := by
  have hg : srtP (gps p q u v n) = srtP ((if p = q then [((p : Int), (n : Int) - u + (n - v))] else if p < q then [((p : Int), (n : Int) - u), ((q : Int), (n : Int) - v)] else [((q : Int), (n : Int) - v), ((p : Int), (n : Int) - u)]) ++ if n < u + v then [((p : Int) + q, (u : Int) + v - n)] else []) := by
    refine leP_uniq (srtP_pw _) (srtP_pw _) (((srtP_perm _).trans ?_).trans (srtP_perm _).symm)
    unfold gps
    refine List.Perm.append ?_ (List.Perm.refl _)
    split
    · exact List.Perm.refl _
    · split
      · exact List.Perm.refl _
      · exact List.Perm.swap _ _ _
  rw [hg]
  refine leP_uniq (srtP_pw _) ?_ (srtP_perm _)
  have l : ∀ {x y : Int × Int}, x.1 < y.1 → leP x y := fun h => leP_of (SrtO.lexB_iff.mpr (.inl h))
  split
  · rename_i e
    split
    · simp only [List.cons_append, List.nil_append, List.pairwise_cons, List.mem_cons, List.not_mem_nil, or_false, forall_eq, false_implies, implies_true, List.Pairwise.nil, and_true]
      exact l (by show (p : Int) < p + q; omega)
    · simp
  · split
    · split
      · simp only [List.cons_append, List.nil_append, List.pairwise_cons, List.mem_cons, List.not_mem_nil, or_false, forall_eq_or_imp, forall_eq, false_implies, implies_true, List.Pairwise.nil, and_true]
        exact ⟨⟨l (by show (p : Int) < q; omega), l (by show (p : Int) < p + q; omega)⟩, l (by show (q : Int) < p + q; omega)⟩
      · simp only [List.append_nil, List.pairwise_cons, List.mem_cons, List.not_mem_nil, or_false, forall_eq, false_implies, implies_true, List.Pairwise.nil, and_true]
        exact l (by show (p : Int) < q; omega)
    · rename_i e1 e2
      split
      · simp only [List.cons_append, List.nil_append, List.pairwise_cons, List.mem_cons, List.not_mem_nil, or_false, forall_eq_or_imp, forall_eq, false_implies, implies_true, List.Pairwise.nil, and_true]
        exact ⟨⟨l (by show (q : Int) < p; omega), l (by show (q : Int) < p + q; omega)⟩, l (by show (p : Int) < p + q; omega)⟩
      · simp only [List.append_nil, List.pairwise_cons, List.mem_cons, List.not_mem_nil, or_false, forall_eq, false_implies, implies_true, List.Pairwise.nil, and_true]
        exact l (by show (q : Int) < p; omega)
/-- the numbers of a row of gaps -/
structure Told (l : List (Int × Int)) (m n : Nat) : Prop where
  l1 : 1 ≤ l.length
  l3 : l.length ≤ 3
  num : (l.map (·.2)).sum = n
  whole : (l.map fun x => x.1 * x.2).sum = m
  third : l.length < 3 ∨ ∃ x y z : Int × Int, l = [x, y, z] ∧ z.1 = x.1 + y.1
theorem told_ok {a m p q u v n : Nat} (h : G3 a m p q u v) (hu : u < n) (hv : v < n) (hn : n ≤ u + v) : Told (srtP (gps p q u v n)) m n := by
  have ms := h.ms
  have hp := h.p0
  have hq := h.q0
  have msI : (p : Int) * v + q * u = m := by exact_mod_cast ms
  rw [gps_srt hp hq]
  have w1 : (p : Int) * ((n : Int) - u) + q * ((n : Int) - v) + ((p : Int) + q) * ((u : Int) + v - n) = m := by
    rw [← msI]
    simp only [Int.mul_sub, Int.mul_add, Int.add_mul]
    omega
  have w2 : ¬ n < u + v → (u : Int) + v - n = 0 := by omega
  by_cases c1 : p = q
  · subst c1
    by_cases c2 : n < u + v
    · refine ⟨by simp [c2], by simp [c2], by simp [c2]; omega, ?_, .inl (by simp [c2])⟩
      simp [c2]
      rw [← w1, Int.mul_add]

    · have w3 := w2 c2
      refine ⟨by simp [c2], by simp [c2], by simp [c2]; omega, ?_, .inl (by simp [c2])⟩
      simp [c2]
      rw [← w1, w3, Int.mul_add]
      omega
  · by_cases c3 : p < q
    · by_cases c2 : n < u + v
      · refine ⟨by simp [c1, c2, c3], by simp [c1, c2, c3], by simp [c1, c2, c3]; omega, ?_, .inr ⟨_, _, _, by simp [c1, c2, c3]; exact ⟨rfl, rfl, rfl⟩, rfl⟩⟩
        simp [c1, c2, c3]
        rw [← w1]
        omega
      · have w3 := w2 c2
        refine ⟨by simp [c1, c2, c3], by simp [c1, c2, c3], by simp [c1, c2, c3]; omega, ?_, .inl (by simp [c1, c2, c3])⟩
        simp [c1, c2, c3]
        rw [← w1, w3]
        omega
    · by_cases c2 : n < u + v
      · refine ⟨by simp [c1, c2, c3], by simp [c1, c2, c3], by simp [c1, c2, c3]; omega, ?_, .inr ⟨_, _, _, by simp [c1, c2, c3]; exact ⟨rfl, rfl, rfl⟩, by show (p : Int) + q = q + p; omega⟩⟩
        simp [c1, c2, c3]
        rw [← w1]
        omega
      · have w3 := w2 c2
        refine ⟨by simp [c1, c2, c3], by simp [c1, c2, c3], by simp [c1, c2, c3]; omega, ?_, .inl (by simp [c1, c2, c3])⟩
        simp [c1, c2, c3]
        rw [← w1, w3]
        omega
end Lk23

namespace Lk23
open PySem L2 DL PyProof.Rows Md Sh ShW ShN
/-! ### the law: a turn of the drift -/
theorem drN {xs : List D} (hx : xs.all D.isI = true) {t : Int} {m : Nat} (h0 : 0 ≤ t) (h1 : t < 1000) (hm : 0 < m) (hm2 : m ≤ 1000) : ∃ d : Nat, S_draw [.l true [.list xs, .int t], .f (.int (m : Int))] = .ok (.f (.int (d : Int)), [.l true [.list xs, .int (t + 1)]]) ∧ d < m := by
  obtain ⟨d, hd⟩ := Int.eq_ofNat_of_zero_le (dv_nn (xs := xs) (a := t) (show (0 : Int) < (m : Int) by omega))
  have hl := dv_lt (xs := xs) (a := t) (show (0 : Int) < (m : Int) by omega)
  refine ⟨d, ?_, by omega⟩
  rw [draw_r hx h0 (by omega) (by omega) (by omega), hd]
  
def eX (r : D) (xs : List D) (t : Int) (c2 c3 c4 c5 c6 c7 c8 c9 c10 c11 c12 c13 c14 c15 c16 c17 c18 c19 c20 c21 c22 c23 c24 c25 c26 c27 c28 c29 : Option D) : En :=
  [some (.f r), some (.l false [.list xs, .int t]), c2.map .f, c3.map .f, c4.map .f, c5.map .f, c6.map .f, c7.map .f, c8.map .f, c9.map .f, c10.map .f, c11.map .f, c12.map .f, c13.map .f, c14.map .f, c15.map .f, c16.map .f, c17.map .f, c18.map .f, c19.map .f, c20.map .f, c21.map .f, c22.map .f, c23.map .f, c24.map .f, c25.map .f, c26.map .f, c27.map .f, c28.map .f, c29.map .f]
section
variable {r : D} {xs : List D} {t : Int} {c2 c3 c4 c5 c6 c7 c8 c9 c10 c11 c12 c13 c14 c15 c16 c17 c18 c19 c20 c21 c22 c23 c24 c25 c26 c27 c28 c29 : Option D}
theorem t0 (hd : S_digits [.f r, .f (.int 0), .f (.int 63)] = .ok (.l false xs, [])) : (sAsg 1 (mLst (aCons (mZ (mCall S_digits (aCons (aD (mVar 0)) (aCons (aD (mC (.int 0))) (aCons (aD (mC (.int 63))) aNil))))) (aCons (mC (.int 0)) aNil)))) [some (.f r), none, none, none, none, none, none, none, none, none, none, none, none, none, none, none, none, none, none, none, none, none, none, none, none, none, none, none, none, none] = .nx (eX r xs (0) none none none none none none none none none none none none none none none none none none none none none none none none none none none none) := by
  simp [hd, eX]
theorem t1 {d : Int} (h : S_draw [.l true [.list xs, .int t], .f (.int 30)] = .ok (.f (.int d), [.l true [.list xs, .int (t + 1)]])) : (sAsgF 2 (mZ (m2 addD (mH (mN (mC (.int 1)))) (mH (mCall S_draw (aCons (aS 1) (aCons (aD (mC (.int 30))) aNil))))))) (eX r xs (t) c2 c3 c4 c5 c6 c7 c8 c9 c10 c11 c12 c13 c14 c15 c16 c17 c18 c19 c20 c21 c22 c23 c24 c25 c26 c27 c28 c29) = .nx (eX r xs (t + 1) (some (.int (1 + d))) c3 c4 c5 c6 c7 c8 c9 c10 c11 c12 c13 c14 c15 c16 c17 c18 c19 c20 c21 c22 c23 c24 c25 c26 c27 c28 c29) := by
  simp [h, eX]
theorem t2 {b a c : Int} (h : S_draw [.l true [.list xs, .int t], .f (.int (b + 1))] = .ok (.f (.int a), [.l true [.list xs, .int (t + 1)]])) (h2 : S_draw [.l true [.list xs, .int (t + 1)], .f (.int b)] = .ok (.f (.int c), [.l true [.list xs, .int (t + 1 + 1)]])) : (sParN 3 4 (mN (mZ (mCall S_draw (aCons (aS 1) (aCons (aD (mZ (m2 addD (mH (mN (mVar 2))) (mH (mN (mC (.int 1))))))) aNil))))) (mN (mZ (mCall S_draw (aCons (aS 1) (aCons (aD (mVar 2)) aNil)))))) (eX r xs (t) (some (.int b)) c3 c4 c5 c6 c7 c8 c9 c10 c11 c12 c13 c14 c15 c16 c17 c18 c19 c20 c21 c22 c23 c24 c25 c26 c27 c28 c29) = .nx (eX r xs (t + 1 + 1) (some (.int b)) (some (.int a)) (some (.int c)) c5 c6 c7 c8 c9 c10 c11 c12 c13 c14 c15 c16 c17 c18 c19 c20 c21 c22 c23 c24 c25 c26 c27 c28 c29) := by
  simp [h, h2, eX]
theorem u0 {d1 d2 : Int} {E : D} (h1 : S_draw [.l true [.list xs, .int t], .f (.int 30)] = .ok (.f (.int d1), [.l true [.list xs, .int (t + 1)]])) (h2 : S_draw [.l true [.list xs, .int (t + 1)], .f (.int 12)] = .ok (.f (.int d2), [.l true [.list xs, .int (t + 1 + 1)]])) (h3 : S_lratio [.f (.int d1), .f (.int (1 + d2))] = .ok (.f E, [])) : (sAsgF 6 (mZ (mCall S_lratio (aCons (aD (mZ (mCall S_draw (aCons (aS 1) (aCons (aD (mC (.int 30))) aNil))))) (aCons (aD (mZ (m2 addD (mH (mN (mC (.int 1)))) (mH (mCall S_draw (aCons (aS 1) (aCons (aD (mC (.int 12))) aNil))))))) aNil))))) (eX r xs (t) c2 c3 c4 c5 c6 c7 c8 c9 c10 c11 c12 c13 c14 c15 c16 c17 c18 c19 c20 c21 c22 c23 c24 c25 c26 c27 c28 c29) = .nx (eX r xs (t + 1 + 1) c2 c3 c4 c5 (some (E)) c7 c8 c9 c10 c11 c12 c13 c14 c15 c16 c17 c18 c19 c20 c21 c22 c23 c24 c25 c26 c27 c28 c29) := by
  simp [h1, h2, h3, eX]
theorem u1 {d1 d2 : Int} {a b AB R1 R2 P X : D} (h1 : S_draw [.l true [.list xs, .int t], .f (.int 30)] = .ok (.f (.int d1), [.l true [.list xs, .int (t + 1)]])) (h2 : S_draw [.l true [.list xs, .int (t + 1)], .f (.int 30)] = .ok (.f (.int d2), [.l true [.list xs, .int (t + 1 + 1)]])) (hr0 : S_lratio [.f a, .f b] = .ok (.f AB, [])) (hr1 : S_lratio [.f (.int 1), .f (.int (1 + d1))] = .ok (.f R1, [])) (hr2 : S_lratio [.f (.int (-1)), .f (.int (1 + d2))] = .ok (.f R2, [])) (hp : S_law_pick [.l true [.list xs, .int (t + 1 + 1)], .f (.list [.tuple [.int 0, .int 1], R1, R2])] = .ok (.f P, [.l true [.list xs, .int (t + 1 + 1 + 1)]])) (hx : S_lplus [.f AB, .f P] = .ok (.f X, [])) : (sAsgF 7 (mZ (mCall S_lplus (aCons (aD (mZ (mCall S_lratio (aCons (aD (mVar 3)) (aCons (aD (mVar 2)) aNil))))) (aCons (aD (mZ (mCall S_law_pick (aCons (aS 1) (aCons (aD (mZ (mLst (aCons (mTup (aCons (mC (.int 0)) (aCons (mC (.int 1)) aNil))) (aCons (mZ (mCall S_lratio (aCons (aD (mC (.int 1))) (aCons (aD (mZ (m2 addD (mH (mN (mC (.int 1)))) (mH (mCall S_draw (aCons (aS 1) (aCons (aD (mC (.int 30))) aNil))))))) aNil)))) (aCons (mZ (mCall S_lratio (aCons (aD (mZ (m2 subD (mH (mN (mC (.int 0)))) (mH (mN (mC (.int 1))))))) (aCons (aD (mZ (m2 addD (mH (mN (mC (.int 1)))) (mH (mCall S_draw (aCons (aS 1) (aCons (aD (mC (.int 30))) aNil))))))) aNil)))) aNil)))))) aNil))))) aNil))))) (eX r xs (t) (some (b)) (some (a)) c4 c5 c6 c7 c8 c9 c10 c11 c12 c13 c14 c15 c16 c17 c18 c19 c20 c21 c22 c23 c24 c25 c26 c27 c28 c29) = .nx (eX r xs (t + 1 + 1 + 1) (some (b)) (some (a)) c4 c5 c6 (some (X)) c8 c9 c10 c11 c12 c13 c14 c15 c16 c17 c18 c19 c20 c21 c22 c23 c24 c25 c26 c27 c28 c29) := by
  simp [h1, h2, hr0, hr1, hr2, hp, hx, eX]
theorem u2 {a b c X E T : D} (h : S_first_off [.f a, .f b, .f c, .f X, .f E] = .ok (.f T, [])) : (sAsgF 8 (mZ (mCall S_first_off (aCons (aD (mVar 3)) (aCons (aD (mVar 2)) (aCons (aD (mVar 4)) (aCons (aD (mVar 7)) (aCons (aD (mVar 6)) aNil)))))))) (eX r xs (t) (some (b)) (some (a)) (some (c)) c5 (some (E)) (some (X)) c8 c9 c10 c11 c12 c13 c14 c15 c16 c17 c18 c19 c20 c21 c22 c23 c24 c25 c26 c27 c28 c29) = .nx (eX r xs (t) (some (b)) (some (a)) (some (c)) c5 (some (E)) (some (X)) (some (T)) c9 c10 c11 c12 c13 c14 c15 c16 c17 c18 c19 c20 c21 c22 c23 c24 c25 c26 c27 c28 c29) := by
  simp [h, eX]
theorem u3e {a b c X E T AB : D} (h1 : S_lratio [.f a, .f b] = .ok (.f AB, [])) (h2 : eqD X AB = .ok (.f (.bool true))) (h3 : S_law_off [.f a, .f b, .f c, .f X, .f E, .f b] = .ok (.f T, [])) (h4 : S_like 2 [.f T, .f T] = .ok (.f (.bool true), [])) : (sIf (mBool (m2 eqD (mH (mN (mVar 7))) (mH (mCall S_lratio (aCons (aD (mVar 3)) (aCons (aD (mVar 2)) aNil)))))) (sIf (mNot (mTru (mH (mCall (S_like 2) (aCons (aD (mVar 8)) (aCons (aD (mZ (mCall S_law_off (aCons (aD (mVar 3)) (aCons (aD (mVar 2)) (aCons (aD (mVar 4)) (aCons (aD (mVar 7)) (aCons (aD (mVar 6)) (aCons (aD (mVar 2)) aNil))))))))) aNil)))))) (sRet (mN (mC (.bool false)))) sNext) (sSeq (sAsgF 9 (mZ (mCall S_law_off (aCons (aD (mVar 3)) (aCons (aD (mVar 2)) (aCons (aD (mVar 4)) (aCons (aD (mVar 7)) (aCons (aD (mVar 6)) (aCons (aD (mC (.int 300))) aNil))))))))) (sIf (mOr (mAnd (mBool (m2 isntD (mH (mN (mVar 9))) (mH (mN (mC .none))))) (mNot (mTru (mH (mCall (S_like 2) (aCons (aD (mVar 8)) (aCons (aD (mVar 9)) aNil))))))) (mAnd (mBool (m2 isD (mH (mN (mVar 9))) (mH (mN (mC .none))))) (mOr (mNot (mTru (mH (mN (mIs "int" (mH (mN (mVar 8)))))))) (mBool (m2 ltD (mH (mN (mVar 8))) (mH (mN (mC (.int 300))))))))) (sRet (mN (mC (.bool false)))) sNext))) (eX r xs (t) (some (b)) (some (a)) (some (c)) c5 (some (E)) (some (X)) (some (T)) c9 c10 c11 c12 c13 c14 c15 c16 c17 c18 c19 c20 c21 c22 c23 c24 c25 c26 c27 c28 c29) = .nx (eX r xs (t) (some (b)) (some (a)) (some (c)) c5 (some (E)) (some (X)) (some (T)) c9 c10 c11 c12 c13 c14 c15 c16 c17 c18 c19 c20 c21 c22 c23 c24 c25 c26 c27 c28 c29) := by
  simp [h1, h2, h3, h4, eX]
theorem u3k {a b c X E AB : D} {k : Int} (h1 : S_lratio [.f a, .f b] = .ok (.f AB, [])) (h2 : eqD X AB = .ok (.f (.bool false))) (h3 : S_law_off [.f a, .f b, .f c, .f X, .f E, .f (.int 300)] = .ok (.f (.int k), [])) (h4 : S_like 2 [.f (.int k), .f (.int k)] = .ok (.f (.bool true), [])) : (sIf (mBool (m2 eqD (mH (mN (mVar 7))) (mH (mCall S_lratio (aCons (aD (mVar 3)) (aCons (aD (mVar 2)) aNil)))))) (sIf (mNot (mTru (mH (mCall (S_like 2) (aCons (aD (mVar 8)) (aCons (aD (mZ (mCall S_law_off (aCons (aD (mVar 3)) (aCons (aD (mVar 2)) (aCons (aD (mVar 4)) (aCons (aD (mVar 7)) (aCons (aD (mVar 6)) (aCons (aD (mVar 2)) aNil))))))))) aNil)))))) (sRet (mN (mC (.bool false)))) sNext) (sSeq (sAsgF 9 (mZ (mCall S_law_off (aCons (aD (mVar 3)) (aCons (aD (mVar 2)) (aCons (aD (mVar 4)) (aCons (aD (mVar 7)) (aCons (aD (mVar 6)) (aCons (aD (mC (.int 300))) aNil))))))))) (sIf (mOr (mAnd (mBool (m2 isntD (mH (mN (mVar 9))) (mH (mN (mC .none))))) (mNot (mTru (mH (mCall (S_like 2) (aCons (aD (mVar 8)) (aCons (aD (mVar 9)) aNil))))))) (mAnd (mBool (m2 isD (mH (mN (mVar 9))) (mH (mN (mC .none))))) (mOr (mNot (mTru (mH (mN (mIs "int" (mH (mN (mVar 8)))))))) (mBool (m2 ltD (mH (mN (mVar 8))) (mH (mN (mC (.int 300))))))))) (sRet (mN (mC (.bool false)))) sNext))) (eX r xs (t) (some (b)) (some (a)) (some (c)) c5 (some (E)) (some (X)) (some (.int k)) c9 c10 c11 c12 c13 c14 c15 c16 c17 c18 c19 c20 c21 c22 c23 c24 c25 c26 c27 c28 c29) = .nx (eX r xs (t) (some (b)) (some (a)) (some (c)) c5 (some (E)) (some (X)) (some (.int k)) (some (.int k)) c10 c11 c12 c13 c14 c15 c16 c17 c18 c19 c20 c21 c22 c23 c24 c25 c26 c27 c28 c29) := by
  simp [h1, h2, h3, h4, eX, D.isN]
theorem u3n {a b c X E AB : D} {k : Int} (h1 : S_lratio [.f a, .f b] = .ok (.f AB, [])) (h2 : eqD X AB = .ok (.f (.bool false))) (h3 : S_law_off [.f a, .f b, .f c, .f X, .f E, .f (.int 300)] = .ok (.f .none, [])) (h4 : ¬ k < 300) : (sIf (mBool (m2 eqD (mH (mN (mVar 7))) (mH (mCall S_lratio (aCons (aD (mVar 3)) (aCons (aD (mVar 2)) aNil)))))) (sIf (mNot (mTru (mH (mCall (S_like 2) (aCons (aD (mVar 8)) (aCons (aD (mZ (mCall S_law_off (aCons (aD (mVar 3)) (aCons (aD (mVar 2)) (aCons (aD (mVar 4)) (aCons (aD (mVar 7)) (aCons (aD (mVar 6)) (aCons (aD (mVar 2)) aNil))))))))) aNil)))))) (sRet (mN (mC (.bool false)))) sNext) (sSeq (sAsgF 9 (mZ (mCall S_law_off (aCons (aD (mVar 3)) (aCons (aD (mVar 2)) (aCons (aD (mVar 4)) (aCons (aD (mVar 7)) (aCons (aD (mVar 6)) (aCons (aD (mC (.int 300))) aNil))))))))) (sIf (mOr (mAnd (mBool (m2 isntD (mH (mN (mVar 9))) (mH (mN (mC .none))))) (mNot (mTru (mH (mCall (S_like 2) (aCons (aD (mVar 8)) (aCons (aD (mVar 9)) aNil))))))) (mAnd (mBool (m2 isD (mH (mN (mVar 9))) (mH (mN (mC .none))))) (mOr (mNot (mTru (mH (mN (mIs "int" (mH (mN (mVar 8)))))))) (mBool (m2 ltD (mH (mN (mVar 8))) (mH (mN (mC (.int 300))))))))) (sRet (mN (mC (.bool false)))) sNext))) (eX r xs (t) (some (b)) (some (a)) (some (c)) c5 (some (E)) (some (X)) (some (.int k)) c9 c10 c11 c12 c13 c14 c15 c16 c17 c18 c19 c20 c21 c22 c23 c24 c25 c26 c27 c28 c29) = .nx (eX r xs (t) (some (b)) (some (a)) (some (c)) c5 (some (E)) (some (X)) (some (.int k)) (some (.none)) c10 c11 c12 c13 c14 c15 c16 c17 c18 c19 c20 c21 c22 c23 c24 c25 c26 c27 c28 c29) := by
  simp [h1, h2, h3, h4, eX, D.isN, D.truth]
noncomputable abbrev MB1 : En → Out := m_law_d46cc9_b1 S_draw S_lratio S_lplus S_law_pick S_first_off (S_like 2) S_law_off
theorem eq_pair (x y z w : Int) : eqD (.tuple [.int x, .int y]) (.tuple [.int z, .int w]) = .ok (.f (.bool (decide (x = z ∧ y = w)))) := by
  have := eq_w [x, y] [z, w]
  rw [show eqD (.tuple [.int x, .int y]) (.tuple [.int z, .int w]) = eqD (wD [x, y]) (wD [z, w]) from rfl, this]
  congr 3
  simp
/-- the pick: nothing, or one by k -/
theorem pick3 {xs : List D} (hx : xs.all D.isI = true) {t : Int} (h0 : 0 ≤ t) (h1 : t < 1000) {y z : Nat} (hy : 0 < y) (hz : 0 < z) (hy2 : y ≤ 30) (hz2 : z ≤ 30) : ∃ R1 R2 P : D, ∃ (x : Int) (w : Nat), S_lratio [.f (.int 1), .f (.int (y : Int))] = .ok (.f R1, []) ∧ S_lratio [.f (.int (-1)), .f (.int (z : Int))] = .ok (.f R2, []) ∧ S_law_pick [.l true [.list xs, .int t], .f (.list [.tuple [.int 0, .int 1], R1, R2])] = .ok (.f P, [.l true [.list xs, .int (t + 1)]]) ∧ P = .tuple [.int x, .int (w : Int)] ∧ 0 < w ∧ w ≤ 30 ∧ -1 ≤ x ∧ x ≤ 1 ∧ (x = 0 → w = 1) := by
  have e1 : ∀ {s : Int} {y : Nat}, (s = 1 ∨ s = -1) → 0 < y → redI s (y : Int) = (s, (y : Int)) := fun {s y} hs hy => by
    have : Int.gcd s (y : Int) = 1 := by
      rcases hs with rfl | rfl
      · exact Nat.gcd_one_left _
      · rw [Int.neg_gcd]
        exact Nat.gcd_one_left _
    unfold redI
    rw [this]
    simp
  have k1 := lratio_r (a := 1) (b := (y : Int)) (by omega) (by omega)
  have k2 := lratio_r (a := -1) (b := (z : Int)) (by omega) (by omega)
  rw [e1 (.inl rfl) hy] at k1
  rw [e1 (.inr rfl) hz] at k2
  obtain ⟨k, P, hk, hp⟩ := pick_r (ts := [.tuple [.int 0, .int 1], .tuple [.int 1, .int (y : Int)], .tuple [.int (-1), .int (z : Int)]]) hx (a := t) h0 (by omega) (by simp)
  rcases k with _ | _ | _ | k
  · obtain rfl : D.tuple [.int 0, .int 1] = P := by simpa using hk
    exact ⟨_, _, _, 0, 1, k1, k2, hp, rfl, by omega, by omega, by omega, by omega, fun _ => rfl⟩
  · obtain rfl : D.tuple [.int 1, .int (y : Int)] = P := by simpa using hk
    exact ⟨_, _, _, 1, y, k1, k2, hp, rfl, hy, hy2, by omega, by omega, fun h => by omega⟩
  · obtain rfl : D.tuple [.int (-1), .int (z : Int)] = P := by simpa using hk
    exact ⟨_, _, _, -1, z, k1, k2, hp, rfl, hz, hz2, by omega, by omega, fun h => by omega⟩
  · simp at hk
theorem lplus_sky {a b a' b' : Nat} {x : Int} {y : Nat} {p : Int} {q : Nat} (h : Sky a b a' b' x y p q) (ha : a ≤ 40) (hb : b ≤ 40) (hy : 0 < y) (hy2 : y ≤ 40) (hx : -1 ≤ x ∧ x ≤ 1) : S_lplus [.f (.tuple [.int (a' : Int), .int (b' : Int)]), .f (.tuple [.int x, .int (y : Int)])] = .ok (.f (qP p q), []) := by
  have la : a' ≤ a := by have := h.lo.ea; have : 1 * a' ≤ Nat.gcd a b * a' := Nat.mul_le_mul_right _ h.lo.g0; omega
  have lb : b' ≤ b := by have := h.lo.eb; have : 1 * b' ≤ Nat.gcd a b * b' := Nat.mul_le_mul_right _ h.lo.g0; omega
  have b0 := h.lo.b0
  have m1 : 0 < (b' : Int) * y := Int.mul_pos (by omega) (by omega)
  have m2 : (b' : Int) * y ≤ 40 * 40 := Int.mul_le_mul (by omega) (by omega) (by omega) (by omega)
  have k : S_lplus [.f (.tuple [.int (a' : Int), .int (b' : Int)]), .f (.tuple [.int x, .int (y : Int)])] = .ok (.f (qD (redI ((a' : Int) * y + x * b') ((b' : Int) * y))), []) := if_pos ⟨m1, by omega, bg_small (by omega), bg_small (by omega), bg_small (by omega), bg_small (by omega)⟩
  rw [k, h.e]
  rfl
theorem turn {a b c : Nat} (hx : xs.all D.isI = true) (h0 : 0 ≤ t) (h1 : t < 900) (hb : 0 < b) (hb2 : b ≤ 30) (ha : a ≤ 30) (hc : c < b) : ∃ c6' c7' c8' c9', MB1 (eX r xs (t) (some (.int (b : Int))) (some (.int (a : Int))) (some (.int (c : Int))) c5 c6 c7 c8 c9 c10 c11 c12 c13 c14 c15 c16 c17 c18 c19 c20 c21 c22 c23 c24 c25 c26 c27 c28 c29) = .nx (eX r xs (t + 1 + 1 + 1 + 1 + 1) (some (.int (b : Int))) (some (.int (a : Int))) (some (.int (c : Int))) c5 c6' c7' c8' c9' c10 c11 c12 c13 c14 c15 c16 c17 c18 c19 c20 c21 c22 c23 c24 c25 c26 c27 c28 c29) := by
  obtain ⟨d1, D1, l1⟩ := drN hx (t := t) (m := 30) (by omega) (by omega) (by decide) (by decide)
  obtain ⟨d2, D2, l2⟩ := drN hx (t := t + 1) (m := 12) (by omega) (by omega) (by decide) (by decide)
  obtain ⟨d3, D3, l3⟩ := drN hx (t := t + 1 + 1) (m := 30) (by omega) (by omega) (by decide) (by decide)
  obtain ⟨d4, D4, l4⟩ := drN hx (t := t + 1 + 1 + 1) (m := 30) (by omega) (by omega) (by decide) (by decide)
  obtain ⟨e0, e1, L1⟩ := lo_ex (a := d1) (b := 1 + d2) (by omega)
  obtain ⟨a', b', L2⟩ := lo_ex (a := a) (b := b) hb
  have k0 := lratio_r (a := (d1 : Int)) (b := ((1 + d2 : Nat) : Int)) (by omega) (by omega)
  have k1 := lratio_r (a := (a : Int)) (b := (b : Int)) (by omega) (by omega)
  rw [L1.e, show ((1 + d2 : Nat) : Int) = 1 + (d2 : Int) from by omega] at k0
  rw [L2.e] at k1
  change S_lratio [.f (.int (d1 : Int)), .f (.int (1 + (d2 : Int)))] = .ok (.f (qP (e0 : Int) e1), []) at k0
  change S_lratio [.f (.int (a : Int)), .f (.int (b : Int))] = .ok (.f (.tuple [.int (a' : Int), .int (b' : Int)]), []) at k1
  obtain ⟨R1, R2, P, x, w, p1, p2, p3, p4, w0, w1, x0, x1, xw⟩ := pick3 hx (t := t + 1 + 1 + 1 + 1) (by omega) (by omega) (y := 1 + d3) (z := 1 + d4) (by omega) (by omega) (by omega) (by omega)
  subst p4
  rw [show ((1 + d3 : Nat) : Int) = 1 + (d3 : Int) from by omega] at p1
  rw [show ((1 + d4 : Nat) : Int) = 1 + (d4 : Int) from by omega] at p2
  obtain ⟨p, q, S⟩ := sky_ex L2 x w0
  obtain ⟨s1, s2, s3⟩ := S.sizes (by omega) (by omega) ⟨x0, x1⟩ (by omega)
  have k2 := lplus_sky S (by omega) (by omega) w0 (by omega) ⟨x0, x1⟩
  have le0 : e0 ≤ d1 := by have := L1.ea; have : 1 * e0 ≤ Nat.gcd d1 (1 + d2) * e0 := Nat.mul_le_mul_right _ L1.g0; omega
  have le1 : e1 ≤ 1 + d2 := by have := L1.eb; have : 1 * e1 ≤ Nat.gcd d1 (1 + d2) * e1 := Nat.mul_le_mul_right _ L1.g0; omega
  have F : FO a b c p q e0 e1 := ⟨hb, by omega, by omega, by omega, s1, s2, S.q0, s3, by omega, L1.b0, by omega⟩
  obtain ⟨o, f1, f2⟩ := first_off_r F
  have lkO : ∀ o : Option Nat, S_like 2 [.f (oD o), .f (oD o)] = .ok (.f (.bool true), []) := fun o => like_r (by cases o <;> rfl)
  have eqP := eq_pair p (q : Int) (a' : Int) (b' : Int)
  by_cases he : p = a' ∧ (q : Int) = b'
  · -- no drift
    rw [decide_eq_true he] at eqP
    have hr := S.zero he.1 (by omega)
    obtain ⟨o2, g1, g2⟩ := law_off_r F (m := b) (by omega)
    have : o2 = o := by
      refine IsL.uniq (P := Off a b c p q (bd q e0 e1)) ?_ f2
      cases o2 with
      | none =>
        intro n hn
        exact g2 _ (by have := Nat.mod_lt n (yr_pos (a := a) hb); have := yr_le a b; omega) ((off_mod hb hr n).mp hn)
      | some k => exact ⟨g2.2.1, g2.2.2⟩
    subst this
    refine ⟨some (qP (e0 : Int) e1), some (qP p q), some (oD o2), c9, ?_⟩
    unfold MB1 m_law_d46cc9_b1
    rw [seq_nx (u0 D1 D2 k0), seq_nx (u1 D3 D4 k1 p1 p2 p3 k2), seq_nx (u2 f1)]
    exact u3e k1 eqP g1 (lkO o2)
  · rw [decide_eq_false he] at eqP
    have hr : rise a b p q ≠ 0 := fun z => by
      have := S.rise0.mp z
      subst this
      have := xw rfl
      subst this
      obtain ⟨z1, z2⟩ := S.same
      exact he ⟨z1, by omega⟩
    obtain ⟨o2, g1, g2⟩ := law_off_r F (m := 300) (by omega)
    cases o with
    | none => exact (rise_ne hb hr f2).elim
    | some k =>
      cases o2 with
      | none =>
        have hk : ¬ (k : Int) < 300 := fun z => g2 k (by omega) f2.1
        refine ⟨some (qP (e0 : Int) e1), some (qP p q), some (.int (k : Int)), some .none, ?_⟩
        unfold MB1 m_law_d46cc9_b1
        rw [seq_nx (u0 D1 D2 k0), seq_nx (u1 D3 D4 k1 p1 p2 p3 k2), seq_nx (u2 f1)]
        exact u3n k1 eqP g1 hk
      | some k2' =>
        have : some k2' = some k := IsL.uniq (P := Off a b c p q (bd q e0 e1)) ⟨g2.2.1, g2.2.2⟩ f2
        cases this
        refine ⟨some (qP (e0 : Int) e1), some (qP p q), some (.int (k : Int)), some (.int (k : Int)), ?_⟩
        unfold MB1 m_law_d46cc9_b1
        rw [seq_nx (u0 D1 D2 k0), seq_nx (u1 D3 D4 k1 p1 p2 p3 k2), seq_nx (u2 f1)]
        exact u3k k1 eqP g1 (lkO (some k))
end
end Lk23


namespace Lk23
open PySem L2 DL PyProof.Rows Md Sh ShW ShN
/-! ### the law: the late ones, the spans -/
section
variable {r : D} {xs : List D} {t : Int} {c2 c3 c4 c5 c6 c7 c8 c9 c10 c11 c12 c13 c14 c15 c16 c17 c18 c19 c20 c21 c22 c23 c24 c25 c26 c27 c28 c29 : Option D}
theorem turns {a b c : Nat} (hx : xs.all D.isI = true) (hb : 0 < b) (hb2 : b ≤ 30) (ha : a ≤ 30) (hc : c < b) (h0 : 0 ≤ t) (h1 : t < 100) : ∃ c5' c6' c7' c8' c9', (sFor (mRng1 (aCons (mC (.int 3)) aNil)) (tgN 5) (m_law_d46cc9_b1 S_draw S_lratio S_lplus S_law_pick S_first_off (S_like 2) S_law_off)) (eX r xs (t) (some (.int (b : Int))) (some (.int (a : Int))) (some (.int (c : Int))) c5 c6 c7 c8 c9 c10 c11 c12 c13 c14 c15 c16 c17 c18 c19 c20 c21 c22 c23 c24 c25 c26 c27 c28 c29) = .nx (eX r xs (t + 5 + 5 + 5) (some (.int (b : Int))) (some (.int (a : Int))) (some (.int (c : Int))) c5' c6' c7' c8' c9' c10 c11 c12 c13 c14 c15 c16 c17 c18 c19 c20 c21 c22 c23 c24 c25 c26 c27 c28 c29) := by
  have r1 : mRng1 (aCons (mC (.int 3)) aNil) (eX r xs (t) (some (.int (b : Int))) (some (.int (a : Int))) (some (.int (c : Int))) c5 c6 c7 c8 c9 c10 c11 c12 c13 c14 c15 c16 c17 c18 c19 c20 c21 c22 c23 c24 c25 c26 c27 c28 c29) = .ok ([.int 0, .int 1, .int 2], (eX r xs (t) (some (.int (b : Int))) (some (.int (a : Int))) (some (.int (c : Int))) c5 c6 c7 c8 c9 c10 c11 c12 c13 c14 c15 c16 c17 c18 c19 c20 c21 c22 c23 c24 c25 c26 c27 c28 c29)) := rfl
  have one : ∀ {t : Int} {c5 c6 c7 c8 c9 : Option D} {d : D} {ds : List D}, 0 ≤ t → t < 900 → ∃ c6' c7' c8' c9', loopL (tgN 5) MB1 (d :: ds) (eX r xs (t) (some (.int (b : Int))) (some (.int (a : Int))) (some (.int (c : Int))) c5 c6 c7 c8 c9 c10 c11 c12 c13 c14 c15 c16 c17 c18 c19 c20 c21 c22 c23 c24 c25 c26 c27 c28 c29) = loopL (tgN 5) MB1 ds (eX r xs (t + 5) (some (.int (b : Int))) (some (.int (a : Int))) (some (.int (c : Int))) (some (d)) c6' c7' c8' c9' c10 c11 c12 c13 c14 c15 c16 c17 c18 c19 c20 c21 c22 c23 c24 c25 c26 c27 c28 c29) := fun {t c5 c6 c7 c8 c9 d ds} h0 h1 => by
    obtain ⟨c6', c7', c8', c9', g⟩ := turn (r := r) (t := t) (c5 := some d) (c6 := c6) (c7 := c7) (c8 := c8) (c9 := c9) (c10 := c10) (c11 := c11) (c12 := c12) (c13 := c13) (c14 := c14) (c15 := c15) (c16 := c16) (c17 := c17) (c18 := c18) (c19 := c19) (c20 := c20) (c21 := c21) (c22 := c22) (c23 := c23) (c24 := c24) (c25 := c25) (c26 := c26) (c27 := c27) (c28 := c28) (c29 := c29) hx h0 h1 hb hb2 ha hc
    rw [show t + 1 + 1 + 1 + 1 + 1 = t + 5 by omega] at g
    exact ⟨c6', c7', c8', c9', loop_nx (tgN_f (a := c5) rfl) g⟩
  obtain ⟨x6, x7, x8, x9, g1⟩ := one (t := t) (c5 := c5) (c6 := c6) (c7 := c7) (c8 := c8) (c9 := c9) (d := .int 0) (ds := [.int 1, .int 2]) h0 (by omega)
  obtain ⟨y6, y7, y8, y9, g2⟩ := one (t := t + 5) (c5 := some (.int 0)) (c6 := x6) (c7 := x7) (c8 := x8) (c9 := x9) (d := .int 1) (ds := [.int 2]) (by omega) (by omega)
  obtain ⟨z6, z7, z8, z9, g3⟩ := one (t := t + 5 + 5) (c5 := some (.int 1)) (c6 := y6) (c7 := y7) (c8 := y8) (c9 := y9) (d := .int 2) (ds := []) (by omega) (by omega)
  exact ⟨some (.int 2), z6, z7, z8, z9, (for_rD r1).trans (g1.trans (g2.trans g3))⟩
theorem t4 {a b AB X : D} {d : Int} (h1 : S_lratio [.f a, .f b] = .ok (.f AB, [])) (h2 : S_lplus [.f AB, .f (.tuple [.int 1, .int 10])] = .ok (.f X, [])) (h3 : S_draw [.l true [.list xs, .int t], .f (.int 900)] = .ok (.f (.int d), [.l true [.list xs, .int (t + 1)]])) : (sParN 10 11 (mN (mZ (mCall S_lplus (aCons (aD (mZ (mCall S_lratio (aCons (aD (mVar 3)) (aCons (aD (mVar 2)) aNil))))) (aCons (aD (mTup (aCons (mC (.int 1)) (aCons (mC (.int 10)) aNil)))) aNil))))) (mN (mTup (aCons (mZ (m2 addD (mH (mN (mC (.int 1000)))) (mH (mCall S_draw (aCons (aS 1) (aCons (aD (mC (.int 900))) aNil)))))) (aCons (mC (.int 1)) aNil))))) (eX r xs (t) (some (b)) (some (a)) c4 c5 c6 c7 c8 c9 c10 c11 c12 c13 c14 c15 c16 c17 c18 c19 c20 c21 c22 c23 c24 c25 c26 c27 c28 c29) = .nx (eX r xs (t + 1) (some (b)) (some (a)) c4 c5 c6 c7 c8 c9 (some (X)) (some (.tuple [.int (1000 + d), .int 1])) c12 c13 c14 c15 c16 c17 c18 c19 c20 c21 c22 c23 c24 c25 c26 c27 c28 c29) := by
  simp [h1, h2, h3, eX]
theorem t5 {a b c X E L : D} (h : S_first_off [.f a, .f b, .f c, .f X, .f E] = .ok (.f L, [])) : (sAsgF 12 (mZ (mCall S_first_off (aCons (aD (mVar 3)) (aCons (aD (mVar 2)) (aCons (aD (mVar 4)) (aCons (aD (mVar 10)) (aCons (aD (mVar 11)) aNil)))))))) (eX r xs (t) (some (b)) (some (a)) (some (c)) c5 c6 c7 c8 c9 (some (X)) (some (E)) c12 c13 c14 c15 c16 c17 c18 c19 c20 c21 c22 c23 c24 c25 c26 c27 c28 c29) = .nx (eX r xs (t) (some (b)) (some (a)) (some (c)) c5 c6 c7 c8 c9 (some (X)) (some (E)) (some (L)) c13 c14 c15 c16 c17 c18 c19 c20 c21 c22 c23 c24 c25 c26 c27 c28 c29) := by
  simp [h, eX]
theorem t6 {L : Int} (h : S_number [.f (.int L), .f (.int 0), .f (.int 1000000000)] = .ok (.f (.bool true), [])) : (sIf (mNot (mTru (mH (mCall S_number (aCons (aD (mVar 12)) (aCons (aD (mC (.int 0))) (aCons (aD (mZ (m2 powD (mH (mN (mC (.int 10)))) (mH (mN (mC (.int 9))))))) aNil))))))) (sRet (mN (mC (.bool false)))) sNext) (eX r xs (t) c2 c3 c4 c5 c6 c7 c8 c9 c10 c11 (some (.int L)) c13 c14 c15 c16 c17 c18 c19 c20 c21 c22 c23 c24 c25 c26 c27 c28 c29) = .nx (eX r xs (t) c2 c3 c4 c5 c6 c7 c8 c9 c10 c11 (some (.int L)) c13 c14 c15 c16 c17 c18 c19 c20 c21 c22 c23 c24 c25 c26 c27 c28 c29) := by
  simp [h, eX]
theorem ne_bb (b : Bool) : neD (.bool b) (.bool b) = .ok (.f (.bool false)) := by cases b <;> rfl
theorem v_step {a b c n cnt g0 g1 w ag : Int} {X E dxy : D} {due : Bool} (w1 : mulD (.int a) (.int n) = .ok (.f (.int w))) (d1 : fdivD (.int (w + c)) (.int b) = .ok (.f (.int cnt))) (s1 : S_lproduct [.f X, .f (.tuple [.int n, .int 1])] = .ok (.f dxy, [])) (s2 : S_lminus [.f dxy, .f (.tuple [.int cnt, .int 1])] = .ok (.f (.tuple [.int g0, .int g1]), [])) (ha : (if g0 < 0 then -g0 else g0) = ag) (s3 : S_less [.f E, .f (.tuple [.int ag, .int g1])] = .ok (.f (.bool due), [])) :
    m_law_d46cc9_b2 S_lminus S_lproduct S_less (eX r xs (t) (some (.int b)) (some (.int a)) (some (.int c)) c5 c6 c7 c8 c9 (some (X)) (some (E)) c12 (some (.int n)) (some (.bool due)) c15 c16 c17 c18 c19 c20 c21 c22 c23 c24 c25 c26 c27 c28 c29) = .nx (eX r xs (t) (some (.int b)) (some (.int a)) (some (.int c)) c5 c6 c7 c8 c9 (some (X)) (some (E)) c12 (some (.int n)) (some (.bool due)) (some (.tuple [.int g0, .int g1])) c16 c17 c18 c19 c20 c21 c22 c23 c24 c25 c26 c27 c28 c29) := by
  have e := ne_bb due
  by_cases hn : 0 ≤ n
  · simp [m_law_d46cc9_b2, w1, d1, s1, s2, ha, s3, e, eX, hn]
  · simp [m_law_d46cc9_b2, w1, d1, s1, s2, ha, s3, e, eX, hn]
theorem v_neg {a b c n cnt g0 g1 w : Int} {X E dxy : D} {due : Bool} (w1 : mulD (.int a) (.int n) = .ok (.f (.int w))) (d1 : fdivD (.int (w + c)) (.int b) = .ok (.f (.int cnt))) (s1 : S_lproduct [.f X, .f (.tuple [.int n, .int 1])] = .ok (.f dxy, [])) (s2 : S_lminus [.f dxy, .f (.tuple [.int cnt, .int 1])] = .ok (.f (.tuple [.int g0, .int g1]), [])) (hn : ¬ 0 ≤ n) :
    m_law_d46cc9_b2 S_lminus S_lproduct S_less (eX r xs (t) (some (.int b)) (some (.int a)) (some (.int c)) c5 c6 c7 c8 c9 (some (X)) (some (E)) c12 (some (.int n)) (some (.bool due)) c15 c16 c17 c18 c19 c20 c21 c22 c23 c24 c25 c26 c27 c28 c29) = .nx (eX r xs (t) (some (.int b)) (some (.int a)) (some (.int c)) c5 c6 c7 c8 c9 (some (X)) (some (E)) c12 (some (.int n)) (some (.bool due)) (some (.tuple [.int g0, .int g1])) c16 c17 c18 c19 c20 c21 c22 c23 c24 c25 c26 c27 c28 c29) := by
  simp [m_law_d46cc9_b2, w1, d1, s1, s2, eX, hn]
/-- what is asked of one place -/
theorem v_one {a b c : Nat} {p : Int} {q e0 e1 : Nat} (h : FO a b c p q e0 e1) {n : Int} {due : Bool} (n0 : -10 < n) (n1 : n < 2 ^ 40) (hd : ∀ k : Nat, n = k → decide (Off a b c p q (bd q e0 e1) k) = due) : ∃ d, m_law_d46cc9_b2 S_lminus S_lproduct S_less (eX r xs (t) (some (.int (b : Int))) (some (.int (a : Int))) (some (.int (c : Int))) c5 c6 c7 c8 c9 (some (qP p q)) (some (qP (e0 : Int) e1)) c12 (some (.int n)) (some (.bool due)) c15 c16 c17 c18 c19 c20 c21 c22 c23 c24 c25 c26 c27 c28 c29) = .nx (eX r xs (t) (some (.int (b : Int))) (some (.int (a : Int))) (some (.int (c : Int))) c5 c6 c7 c8 c9 (some (qP p q)) (some (qP (e0 : Int) e1)) c12 (some (.int n)) (some (.bool due)) (some (d)) c16 c17 c18 c19 c20 c21 c22 c23 c24 c25 c26 c27 c28 c29) := by
  have b0 := h.b0
  have b1 := h.b1
  have a1 := h.a1
  have c1 := h.c1
  obtain ⟨l1, l2⟩ := cnt_lt (a := a) (b := b) (c := c) (n := n) b0 a1 c1 (by omega) (by omega)
  obtain ⟨x, y, g0, g1, G⟩ := gap_ex (p := p) (q := q) (n := n) (cnt := ((a : Int) * n + c) / b) h.p0 h.p1 h.q0 h.q1 (by omega) (by omega) l1 l2
  have w1 := mulD_i (show MulOk (a : Int) n from mulOk_r' (by omega) (by omega))
  have d1 := fdivD_i (i := (a : Int) * n + c) (divS (b := (b : Int)) (by omega) (by omega))
  by_cases hn : 0 ≤ n
  · obtain ⟨k, rfl⟩ := Int.eq_ofNat_of_zero_le hn
    have hk := hd k rfl
    subst hk
    exact ⟨_, v_step w1 d1 G.pr G.mi rfl (G.less h.q0 h.h1 h.h0 h.h2)⟩
  · exact ⟨_, v_neg w1 d1 G.pr G.mi hn⟩
theorem lates {a b c : Nat} {p : Int} {q e0 e1 L : Nat} (h : FO a b c p q e0 e1) (hL : IsL (Off a b c p q (bd q e0 e1)) (some L)) (hl : L < 100000) : ∃ c13' c14' c15', (sFor (mSeqA (mTup (aCons (mTup (aCons (mVar 12) (aCons (mC (.bool true)) aNil))) (aCons (mTup (aCons (mZ (m2 subD (mH (mN (mVar 12))) (mH (mN (mC (.int 1)))))) (aCons (mC (.bool false)) aNil))) (aCons (mTup (aCons (mZ (m2 subD (mH (mN (mVar 12))) (mH (mN (mC (.int 2)))))) (aCons (mC (.bool false)) aNil))) aNil))))) (tgT [(tgN 13), (tgN 14)]) (m_law_d46cc9_b2 S_lminus S_lproduct S_less)) (eX r xs (t) (some (.int (b : Int))) (some (.int (a : Int))) (some (.int (c : Int))) c5 c6 c7 c8 c9 (some (qP p q)) (some (qP (e0 : Int) e1)) (some (.int (L : Int))) c13 c14 c15 c16 c17 c18 c19 c20 c21 c22 c23 c24 c25 c26 c27 c28 c29) = .nx (eX r xs (t) (some (.int (b : Int))) (some (.int (a : Int))) (some (.int (c : Int))) c5 c6 c7 c8 c9 (some (qP p q)) (some (qP (e0 : Int) e1)) (some (.int (L : Int))) c13' c14' c15' c16 c17 c18 c19 c20 c21 c22 c23 c24 c25 c26 c27 c28 c29) := by
  have r1 : mSeqA (mTup (aCons (mTup (aCons (mVar 12) (aCons (mC (.bool true)) aNil))) (aCons (mTup (aCons (mZ (m2 subD (mH (mN (mVar 12))) (mH (mN (mC (.int 1)))))) (aCons (mC (.bool false)) aNil))) (aCons (mTup (aCons (mZ (m2 subD (mH (mN (mVar 12))) (mH (mN (mC (.int 2)))))) (aCons (mC (.bool false)) aNil))) aNil)))) (eX r xs (t) (some (.int (b : Int))) (some (.int (a : Int))) (some (.int (c : Int))) c5 c6 c7 c8 c9 (some (qP p q)) (some (qP (e0 : Int) e1)) (some (.int (L : Int))) c13 c14 c15 c16 c17 c18 c19 c20 c21 c22 c23 c24 c25 c26 c27 c28 c29) = .ok ([.tuple [.int (L : Int), .bool true], .tuple [.int ((L : Int) - 1), .bool false], .tuple [.int ((L : Int) - 2), .bool false]], (eX r xs (t) (some (.int (b : Int))) (some (.int (a : Int))) (some (.int (c : Int))) c5 c6 c7 c8 c9 (some (qP p q)) (some (qP (e0 : Int) e1)) (some (.int (L : Int))) c13 c14 c15 c16 c17 c18 c19 c20 c21 c22 c23 c24 c25 c26 c27 c28 c29)) := by
    simp [eX]
  have tg : ∀ {n : Int} {due : Bool} {c13 c14 c15 : Option D}, tgT [(tgN 13), (tgN 14)] (.tuple [.int n, .bool due]) (eX r xs (t) (some (.int (b : Int))) (some (.int (a : Int))) (some (.int (c : Int))) c5 c6 c7 c8 c9 (some (qP p q)) (some (qP (e0 : Int) e1)) (some (.int (L : Int))) c13 c14 c15 c16 c17 c18 c19 c20 c21 c22 c23 c24 c25 c26 c27 c28 c29) = .ok (eX r xs (t) (some (.int (b : Int))) (some (.int (a : Int))) (some (.int (c : Int))) c5 c6 c7 c8 c9 (some (qP p q)) (some (qP (e0 : Int) e1)) (some (.int (L : Int))) (some (.int n)) (some (.bool due)) c15 c16 c17 c18 c19 c20 c21 c22 c23 c24 c25 c26 c27 c28 c29) := fun {n due c13 c14 c15} => by
    simp [eX]
  obtain ⟨d1, g1⟩ := v_one (r := r) (xs := xs) (t := t) (c5 := c5) (c6 := c6) (c7 := c7) (c8 := c8) (c9 := c9) (c12 := some (.int (L : Int))) (c15 := c15) (c16 := c16) (c17 := c17) (c18 := c18) (c19 := c19) (c20 := c20) (c21 := c21) (c22 := c22) (c23 := c23) (c24 := c24) (c25 := c25) (c26 := c26) (c27 := c27) (c28 := c28) (c29 := c29) h (n := (L : Int)) (due := true) (by omega) (by omega) (fun k hk => by
    have : L = k := by omega
    subst this
    exact decide_eq_true hL.1)
  have no : ∀ {n : Int}, n < L → ∀ k : Nat, n = k → decide (Off a b c p q (bd q e0 e1) k) = false := fun hn k hk => decide_eq_false (hL.2 k (by omega))
  obtain ⟨d2, g2⟩ := v_one (r := r) (xs := xs) (t := t) (c5 := c5) (c6 := c6) (c7 := c7) (c8 := c8) (c9 := c9) (c12 := some (.int (L : Int))) (c15 := some d1) (c16 := c16) (c17 := c17) (c18 := c18) (c19 := c19) (c20 := c20) (c21 := c21) (c22 := c22) (c23 := c23) (c24 := c24) (c25 := c25) (c26 := c26) (c27 := c27) (c28 := c28) (c29 := c29) h (n := (L : Int) - 1) (due := false) (by omega) (by omega) (no (by omega))
  obtain ⟨d3, g3⟩ := v_one (r := r) (xs := xs) (t := t) (c5 := c5) (c6 := c6) (c7 := c7) (c8 := c8) (c9 := c9) (c12 := some (.int (L : Int))) (c15 := some d2) (c16 := c16) (c17 := c17) (c18 := c18) (c19 := c19) (c20 := c20) (c21 := c21) (c22 := c22) (c23 := c23) (c24 := c24) (c25 := c25) (c26 := c26) (c27 := c27) (c28 := c28) (c29 := c29) h (n := (L : Int) - 2) (due := false) (by omega) (by omega) (no (by omega))
  refine ⟨_, _, _, (for_rD r1).trans ((loop_nx tg g1).trans ((loop_nx tg g2).trans ((loop_nx tg g3).trans rfl)))⟩
theorem t8 {d : Int} (h : S_draw [.l true [.list xs, .int t], .f (.int 200)] = .ok (.f (.int d), [.l true [.list xs, .int (t + 1)]])) : (sAsgF 16 (mZ (m2 addD (mH (mN (mC (.int 2)))) (mH (mCall S_draw (aCons (aS 1) (aCons (aD (mC (.int 200))) aNil))))))) (eX r xs (t) c2 c3 c4 c5 c6 c7 c8 c9 c10 c11 c12 c13 c14 c15 c16 c17 c18 c19 c20 c21 c22 c23 c24 c25 c26 c27 c28 c29) = .nx (eX r xs (t + 1) c2 c3 c4 c5 c6 c7 c8 c9 c10 c11 c12 c13 c14 c15 (some (.int (2 + d))) c17 c18 c19 c20 c21 c22 c23 c24 c25 c26 c27 c28 c29) := by
  simp [h, eX]
theorem t9 {m d : Int} (h : S_draw [.l true [.list xs, .int t], .f (.int m)] = .ok (.f (.int d), [.l true [.list xs, .int (t + 1)]])) : (sAsgF 17 (mZ (mCall S_draw (aCons (aS 1) (aCons (aD (mVar 16)) aNil))))) (eX r xs (t) c2 c3 c4 c5 c6 c7 c8 c9 c10 c11 c12 c13 c14 c15 (some (.int m)) c17 c18 c19 c20 c21 c22 c23 c24 c25 c26 c27 c28 c29) = .nx (eX r xs (t + 1) c2 c3 c4 c5 c6 c7 c8 c9 c10 c11 c12 c13 c14 c15 (some (.int m)) (some (.int d)) c18 c19 c20 c21 c22 c23 c24 c25 c26 c27 c28 c29) := by
  simp [h, eX]
theorem t10 {m l d hi : Int} (h : S_draw [.l true [.list xs, .int t], .f (.int 9)] = .ok (.f (.int d), [.l true [.list xs, .int (t + 1)]])) (hh : (if l + d < m - 1 then l + d else m - 1) = hi) : (sAsgF 18 (mZ (mL minD (aCons (mH (m2 subD (mH (mN (mVar 16))) (mH (mN (mC (.int 1)))))) (aCons (mH (m2 addD (mH (mN (mVar 17))) (mH (mCall S_draw (aCons (aS 1) (aCons (aD (mC (.int 9))) aNil)))))) aNil))))) (eX r xs (t) c2 c3 c4 c5 c6 c7 c8 c9 c10 c11 c12 c13 c14 c15 (some (.int m)) (some (.int l)) c18 c19 c20 c21 c22 c23 c24 c25 c26 c27 c28 c29) = .nx (eX r xs (t + 1) c2 c3 c4 c5 c6 c7 c8 c9 c10 c11 c12 c13 c14 c15 (some (.int m)) (some (.int l)) (some (.int hi)) c19 c20 c21 c22 c23 c24 c25 c26 c27 c28 c29) := by
  simp [h, hh, eX]
theorem t11 {d : Int} (h : S_draw [.l true [.list xs, .int t], .f (.int 400)] = .ok (.f (.int d), [.l true [.list xs, .int (t + 1)]])) : (sAsgF 19 (mZ (m2 subD (mH (mCall S_draw (aCons (aS 1) (aCons (aD (mC (.int 400))) aNil)))) (mH (mN (mC (.int 200))))))) (eX r xs (t) c2 c3 c4 c5 c6 c7 c8 c9 c10 c11 c12 c13 c14 c15 c16 c17 c18 c19 c20 c21 c22 c23 c24 c25 c26 c27 c28 c29) = .nx (eX r xs (t + 1) c2 c3 c4 c5 c6 c7 c8 c9 c10 c11 c12 c13 c14 c15 c16 c17 c18 (some (.int (d - 200))) c20 c21 c22 c23 c24 c25 c26 c27 c28 c29) := by
  simp [h, eX]
/-! the multiples in a span, walked -/
instance {a m lo hi : Int} {n : Nat} : Decidable (InS a m lo hi n) := inferInstanceAs (Decidable (_ ∧ _))
def inL (a m lo hi : Int) (k : Nat) : List Nat := (List.range k).filter fun n => decide (InS a m lo hi n)
def natD (n : Nat) : D := .int (n : Int)
def pickD (P : Nat → Bool) : D → Option D
  | .int t => if P t.toNat = true then some (.int t) else none
  | _ => none
theorem fm_rg (P : Nat → Bool) : ∀ l : List Nat, (l.map natD).filterMap (pickD P) = (l.filter P).map natD
  | [] => rfl
  | k :: l => by
    rw [List.map_cons]
    by_cases h : P k = true
    · rw [List.filterMap_cons_some (b := natD k) (by simp [pickD, natD, h]), List.filter_cons_of_pos h, List.map_cons, fm_rg P l]
    · rw [List.filterMap_cons_none (by simp [pickD, natD, h]), List.filter_cons_of_neg h, fm_rg P l]
theorem t12c {a m lo hi : Int} {M : Nat} (hM : m = (M : Int)) (hm0 : 0 < m) (hm : m < 1000) (ha : -1000 < a ∧ a < 1000) : mComp (mRng1 (aCons (mVar 16) aNil)) (tgN 13) [13] m_law_d46cc9_c1 m_law_d46cc9_e1 (eX r xs (t) c2 c3 c4 c5 c6 c7 c8 c9 c10 c11 c12 c13 c14 c15 (some (.int m)) (some (.int lo)) (some (.int hi)) (some (.int a)) c20 c21 c22 c23 c24 c25 c26 c27 c28 c29) = .ok (.l false ((inL a m lo hi M).map natD), (eX r xs (t) c2 c3 c4 c5 c6 c7 c8 c9 c10 c11 c12 c13 c14 c15 (some (.int m)) (some (.int lo)) (some (.int hi)) (some (.int a)) c20 c21 c22 c23 c24 c25 c26 c27 c28 c29)) := by
  unfold inL
  rw [← fm_rg]
  have r1 : mRng1 (aCons (mVar 16) aNil) (eX r xs (t) c2 c3 c4 c5 c6 c7 c8 c9 c10 c11 c12 c13 c14 c15 (some (.int m)) (some (.int lo)) (some (.int hi)) (some (.int a)) c20 c21 c22 c23 c24 c25 c26 c27 c28 c29) = .ok ((List.range M).map natD, (eX r xs (t) c2 c3 c4 c5 c6 c7 c8 c9 c10 c11 c12 c13 c14 c15 (some (.int m)) (some (.int lo)) (some (.int hi)) (some (.int a)) c20 c21 c22 c23 c24 c25 c26 c27 c28 c29)) := by
    have k := rng1_r (ma := aCons (mVar 16) aNil) (e := (eX r xs (t) c2 c3 c4 c5 c6 c7 c8 c9 c10 c11 c12 c13 c14 c15 (some (.int m)) (some (.int lo)) (some (.int hi)) (some (.int a)) c20 c21 c22 c23 c24 c25 c26 c27 c28 c29)) (e' := (eX r xs (t) c2 c3 c4 c5 c6 c7 c8 c9 c10 c11 c12 c13 c14 c15 (some (.int m)) (some (.int lo)) (some (.int hi)) (some (.int a)) c20 c21 c22 c23 c24 c25 c26 c27 c28 c29)) (n := m) (by simp [eX]) (by omega) (by omega)
    rw [show m.toNat = M by omega, rg_enc] at k
    exact k
  refine mComp_pure (is := [13]) _ r1 (tgOk_n 13) (by simp) (by simp [eX]) (hz_of (by rw [List.length_map, List.length_range]; omega)) fun x hx => ?_
  obtain ⟨k, hk, rfl⟩ := List.mem_map.mp hx
  have hk := List.mem_range.mp hk
  have w1 := mulD_i (show MulOk (k : Int) a from mulOk_r' (by omega) (by omega))
  have d1 := modD_i (i := (k : Int) * a) hm0
  have eI : InS a m lo hi k ↔ lo ≤ (k : Int) * a % m ∧ (k : Int) * a % m ≤ hi := Iff.rfl
  refine ⟨(eX r xs (t) c2 c3 c4 c5 c6 c7 c8 c9 c10 c11 c12 (some (.int (k : Int))) c14 c15 (some (.int m)) (some (.int lo)) (some (.int hi)) (some (.int a)) c20 c21 c22 c23 c24 c25 c26 c27 c28 c29), by simp [wipeE, natD, eX], ?_, ?_⟩
  · generalize (k : Int) * a % m = x at *
    by_cases q1 : lo ≤ x
    · by_cases q2 : x ≤ hi
      · simp [m_law_d46cc9_c1, natD, pickD, eX, w1, d1, eI, q1, q2]
      · simp [m_law_d46cc9_c1, natD, pickD, eX, w1, d1, eI, q1, q2]
    · simp [m_law_d46cc9_c1, natD, pickD, eX, w1, d1, eI, q1]
  · intro y hy
    have : y = .int (k : Int) := by
      unfold pickD natD at hy
      simp only at hy
      split at hy
      · exact (Option.some.inj hy).symm
      · cases hy
    subst this
    simp [m_law_d46cc9_e1, eX]
theorem t12 {z : M Ce} {ds : List D} {a m lo hi : D} (hz : z (eX r xs (t) c2 c3 c4 c5 c6 c7 c8 c9 c10 c11 c12 c13 c14 c15 (some (m)) (some (lo)) (some (hi)) (some (a)) c20 c21 c22 c23 c24 c25 c26 c27 c28 c29) = .ok (.l false ds, (eX r xs (t) c2 c3 c4 c5 c6 c7 c8 c9 c10 c11 c12 c13 c14 c15 (some (m)) (some (lo)) (some (hi)) (some (a)) c20 c21 c22 c23 c24 c25 c26 c27 c28 c29))) : sAsgF 20 (mZ z) (eX r xs (t) c2 c3 c4 c5 c6 c7 c8 c9 c10 c11 c12 c13 c14 c15 (some (m)) (some (lo)) (some (hi)) (some (a)) c20 c21 c22 c23 c24 c25 c26 c27 c28 c29) = .nx (eX r xs (t) c2 c3 c4 c5 c6 c7 c8 c9 c10 c11 c12 c13 c14 c15 (some (m)) (some (lo)) (some (hi)) (some (a)) (some (.list ds)) c21 c22 c23 c24 c25 c26 c27 c28 c29) := by
  have hio : ioAt (eX r xs (t) c2 c3 c4 c5 c6 c7 c8 c9 c10 c11 c12 c13 c14 c15 (some (m)) (some (lo)) (some (hi)) (some (a)) c20 c21 c22 c23 c24 c25 c26 c27 c28 c29) 20 = false := ioAt_f (a := c20) rfl
  rw [sAsgF_r, mZ_r, hz]
  show (if ioAt _ 20 = true then Out.no else Out.nx _) = _
  rw [hio]
  rfl
theorem nat_ints (ns : List Nat) : ns.map natD = (ns.map fun (n : Nat) => (n : Int)).map D.int := by
  rw [List.map_map]
  rfl
theorem ne_nil (n : Nat) (ns : List Nat) : neD (.list (natD n :: ns.map natD)) (.list []) = .ok (.f (.bool true)) := by
  have e : natD n :: ns.map natD = ((n :: ns).map fun (n : Nat) => (n : Int)).map D.int := nat_ints (n :: ns)
  rw [e]
  unfold neD
  have h1 : D.pl 60 (.list (((n :: ns).map fun (n : Nat) => (n : Int)).map .int)) = true := plA_ints 59 _
  have h2 : D.pl 60 (.list []) = true := rfl
  have h3 : D.eqb (.list (((n :: ns).map fun (n : Nat) => (n : Int)).map .int)) (.list []) = false := rfl
  rw [h1, h2, h3]
  simp
theorem ne_nil0 : neD (.list []) (.list []) = .ok (.f (.bool false)) := rfl
theorem t13 {a m lo hi : Int} {ns : List Nat} {o : Option Nat} (ho : ns.head? = o) (h1 : S_first_in [.f (.int a), .f (.int m), .f (.int lo), .f (.int hi)] = .ok (.f (oD o), [])) (h2 : S_like 2 [.f (oD o), .f (oD o)] = .ok (.f (.bool true), [])) : (sIf (mNot (mTru (mH (mCall (S_like 2) (aCons (aD (mZ (mCall S_first_in (aCons (aD (mVar 19)) (aCons (aD (mVar 16)) (aCons (aD (mVar 17)) (aCons (aD (mVar 18)) aNil))))))) (aCons (aD (mZ (mIf (mBool (m2 neD (mH (mN (mVar 20))) (mH (mLst aNil)))) (m2 ixD (mH (mN (mVar 20))) (mH (mN (mC (.int 0))))) (mN (mC .none))))) aNil)))))) (sRet (mN (mC (.bool false)))) sNext) (eX r xs (t) c2 c3 c4 c5 c6 c7 c8 c9 c10 c11 c12 c13 c14 c15 (some (.int m)) (some (.int lo)) (some (.int hi)) (some (.int a)) (some (.list (ns.map natD))) c21 c22 c23 c24 c25 c26 c27 c28 c29) = .nx (eX r xs (t) c2 c3 c4 c5 c6 c7 c8 c9 c10 c11 c12 c13 c14 c15 (some (.int m)) (some (.int lo)) (some (.int hi)) (some (.int a)) (some (.list (ns.map natD))) c21 c22 c23 c24 c25 c26 c27 c28 c29) := by
  subst ho
  cases ns with
  | nil =>
    have e := ne_nil0
    simp only [List.head?_nil, oD] at h1 h2
    simp [h1, h2, e, eX]
  | cons n ns =>
    have e := ne_nil n ns
    have x := ixD_ln (ds := natD n :: ns.map natD) (n := 0) (d := natD n) rfl
    rw [show ((0 : Nat) : Int) = 0 from rfl] at x
    simp only [List.head?_cons, oD] at h1 h2
    rw [List.map_cons]
    generalize ns.map natD = ds at *
    change S_like 2 [.f (natD n), .f (natD n)] = _ at h2
    change S_first_in _ = .ok (.f (natD n), []) at h1
    generalize natD n = N at *
    simp [h1, h2, e, x, eX]
end
end Lk23


namespace Lk23
open PySem L2 DL PyProof.Rows Md Sh ShW ShN
/-! ### the law: great circles, gaps -/
section
variable {r : D} {xs : List D} {t : Int} {c2 c3 c4 c5 c6 c7 c8 c9 c10 c11 c12 c13 c14 c15 c16 c17 c18 c19 c20 c21 c22 c23 c24 c25 c26 c27 c28 c29 : Option D}
theorem t14 : (sAsgF 21 (mC (.int 1))) (eX r xs (t) c2 c3 c4 c5 c6 c7 c8 c9 c10 c11 c12 c13 c14 c15 c16 c17 c18 c19 c20 c21 c22 c23 c24 c25 c26 c27 c28 c29) = .nx (eX r xs (t) c2 c3 c4 c5 c6 c7 c8 c9 c10 c11 c12 c13 c14 c15 c16 c17 c18 c19 c20 (some (.int 1)) c22 c23 c24 c25 c26 c27 c28 c29) := by
  simp [eX]
theorem g_body {g d w : Int} (hw : mulD (.int g) (.int 1009) = .ok (.f (.int w))) (h : S_draw [.l true [.list xs, .int t], .f (.int 900)] = .ok (.f (.int d), [.l true [.list xs, .int (t + 1)]])) : m_law_d46cc9_b3 S_draw (eX r xs (t) c2 c3 c4 c5 c6 c7 c8 c9 c10 c11 c12 c13 c14 c15 c16 c17 c18 c19 c20 (some (.int g)) c22 c23 c24 c25 c26 c27 c28 c29) = .nx (eX r xs (t + 1) c2 c3 c4 c5 c6 c7 c8 c9 c10 c11 c12 c13 c14 c15 c16 c17 c18 c19 c20 (some (.int (w + 1 + d))) c22 c23 c24 c25 c26 c27 c28 c29) := by
  simp [m_law_d46cc9_b3, hw, h, eX]
theorem greats (hx : xs.all D.isI = true) (h0 : 0 ≤ t) (h1 : t < 900) : ∃ (G n : Nat) (c22' : Option D), (sFor (mRng1 (aCons (mZ (m2 addD (mH (mN (mC (.int 3)))) (mH (mCall S_draw (aCons (aS 1) (aCons (aD (mC (.int 9))) aNil)))))) aNil)) (tgN 22) (m_law_d46cc9_b3 S_draw)) (eX r xs (t) c2 c3 c4 c5 c6 c7 c8 c9 c10 c11 c12 c13 c14 c15 c16 c17 c18 c19 c20 (some (.int 1)) c22 c23 c24 c25 c26 c27 c28 c29) = .nx (eX r xs (t + 1 + n) c2 c3 c4 c5 c6 c7 c8 c9 c10 c11 c12 c13 c14 c15 c16 c17 c18 c19 c20 (some (.int (G : Int))) c22' c23 c24 c25 c26 c27 c28 c29) ∧ n ≤ 11 ∧ 1009 ^ 3 ≤ G ∧ G < 2 ^ 130 := by
  obtain ⟨d, D1, l1⟩ := drN hx (t := t) (m := 9) h0 (by omega) (by decide) (by decide)
  have r1 : mRng1 (aCons (mZ (m2 addD (mH (mN (mC (.int 3)))) (mH (mCall S_draw (aCons (aS 1) (aCons (aD (mC (.int 9))) aNil)))))) aNil) (eX r xs (t) c2 c3 c4 c5 c6 c7 c8 c9 c10 c11 c12 c13 c14 c15 c16 c17 c18 c19 c20 (some (.int 1)) c22 c23 c24 c25 c26 c27 c28 c29) = .ok (rgD ((0 : Nat) : Int) (3 + d), (eX r xs (t + 1) c2 c3 c4 c5 c6 c7 c8 c9 c10 c11 c12 c13 c14 c15 c16 c17 c18 c19 c20 (some (.int 1)) c22 c23 c24 c25 c26 c27 c28 c29)) := by
    have k := rng1_r (ma := aCons (mZ (m2 addD (mH (mN (mC (.int 3)))) (mH (mCall S_draw (aCons (aS 1) (aCons (aD (mC (.int 9))) aNil)))))) aNil) (e := (eX r xs (t) c2 c3 c4 c5 c6 c7 c8 c9 c10 c11 c12 c13 c14 c15 c16 c17 c18 c19 c20 (some (.int 1)) c22 c23 c24 c25 c26 c27 c28 c29)) (e' := (eX r xs (t + 1) c2 c3 c4 c5 c6 c7 c8 c9 c10 c11 c12 c13 c14 c15 c16 c17 c18 c19 c20 (some (.int 1)) c22 c23 c24 c25 c26 c27 c28 c29)) (n := 3 + (d : Int)) (by
      have D1' : S_draw [.l true [.list xs, .int t], .f (.int 9)] = .ok (.f (.int (d : Int)), [.l true [.list xs, .int (t + 1)]]) := D1
      simp [D1', eX]) (by omega) (by omega)
    rw [show (3 + (d : Int)).toNat = 3 + d by omega] at k
    exact k
  obtain ⟨e', g1, G, c22', he, hlo, hhi⟩ := loop_rg (b := m_law_d46cc9_b3 S_draw) (i := 22) (fun k e => ∃ (G : Nat) (c22' : Option D), e = (eX r xs (t + 1 + k) c2 c3 c4 c5 c6 c7 c8 c9 c10 c11 c12 c13 c14 c15 c16 c17 c18 c19 c20 (some (.int (G : Int))) c22' c23 c24 c25 c26 c27 c28 c29) ∧ 1009 ^ k ≤ G ∧ G ≤ 2000 ^ k) (3 + d) (3 + d) 0 (by omega) (fun k e _ hk ⟨G, c22', he, hlo, hhi⟩ => by
    subst he
    obtain ⟨d2, D2, l2⟩ := drN hx (t := t + 1 + (k : Int)) (m := 900) (by omega) (by omega) (by decide) (by decide)
    have w1 := mulD_i (show MulOk (G : Int) 1009 from mulOk_r' (by decide) (by decide))
    have hb := g_body (r := r) (t := t + 1 + (k : Int)) (c2 := c2) (c3 := c3) (c4 := c4) (c5 := c5) (c6 := c6) (c7 := c7) (c8 := c8) (c9 := c9) (c10 := c10) (c11 := c11) (c12 := c12) (c13 := c13) (c14 := c14) (c15 := c15) (c16 := c16) (c17 := c17) (c18 := c18) (c19 := c19) (c20 := c20) (c22 := some (.int (k : Int))) (c23 := c23) (c24 := c24) (c25 := c25) (c26 := c26) (c27 := c27) (c28 := c28) (c29 := c29) w1 D2
    have eG : (G : Int) * 1009 + 1 + d2 = ((G * 1009 + 1 + d2 : Nat) : Int) := by omega
    rw [eG, show t + 1 + (k : Int) + 1 = t + 1 + ((k + 1 : Nat) : Int) by omega] at hb
    refine ⟨(eX r xs (t + 1 + k) c2 c3 c4 c5 c6 c7 c8 c9 c10 c11 c12 c13 c14 c15 c16 c17 c18 c19 c20 (some (.int (G : Int))) (some (.int (k : Int))) c23 c24 c25 c26 c27 c28 c29), _, tgN_f (a := c22') rfl, hb, G * 1009 + 1 + d2, some (.int (k : Int)), rfl, ?_, ?_⟩
    · rw [Nat.pow_succ]
      omega
    · have : 0 < 1009 ^ k := Nat.pow_pos (by decide)
      rw [Nat.pow_succ]
      omega) (eX r xs (t + 1) c2 c3 c4 c5 c6 c7 c8 c9 c10 c11 c12 c13 c14 c15 c16 c17 c18 c19 c20 (some (.int 1)) c22 c23 c24 c25 c26 c27 c28 c29) ⟨1, c22, by rw [show t + 1 + ((0 : Nat) : Int) = t + 1 by omega]; rfl, by simp, by simp⟩
  subst he
  refine ⟨G, 3 + d, c22', (for_rD r1).trans g1, by omega, ?_, ?_⟩
  · exact Nat.le_trans (Nat.pow_le_pow_right (by decide) (by omega)) hlo
  · exact Nat.lt_of_le_of_lt (Nat.le_trans hhi (Nat.pow_le_pow_right (by decide) (show 3 + d ≤ 11 by omega))) (by decide)
theorem t16 {G d1 d2 w : Int} (hd : fdivD (.int G) (.int 3) = .ok (.f (.int w))) (h1 : S_draw [.l true [.list xs, .int t], .f (.int 900)] = .ok (.f (.int d1), [.l true [.list xs, .int (t + 1)]])) (h2 : S_draw [.l true [.list xs, .int (t + 1)], .f (.int 900)] = .ok (.f (.int d2), [.l true [.list xs, .int (t + 1 + 1)]])) : (sTgt (tgT [(tgN 19), (tgN 13)]) (mTup (aCons (mZ (m2 addD (mH (m2 fdivD (mH (mN (mVar 21))) (mH (mN (mC (.int 3)))))) (mH (mCall S_draw (aCons (aS 1) (aCons (aD (mC (.int 900))) aNil)))))) (aCons (mZ (mCall S_draw (aCons (aS 1) (aCons (aD (mC (.int 900))) aNil)))) aNil)))) (eX r xs (t) c2 c3 c4 c5 c6 c7 c8 c9 c10 c11 c12 c13 c14 c15 c16 c17 c18 c19 c20 (some (.int G)) c22 c23 c24 c25 c26 c27 c28 c29) = .nx (eX r xs (t + 1 + 1) c2 c3 c4 c5 c6 c7 c8 c9 c10 c11 c12 (some (.int d2)) c14 c15 c16 c17 c18 (some (.int (w + d1))) c20 (some (.int G)) c22 c23 c24 c25 c26 c27 c28 c29) := by
  simp [hd, h1, h2, eX]
theorem t17 {G n a w x : Int} (hw : mulD (.int n) (.int a) = .ok (.f (.int w))) (hd : modD (.int w) (.int G) = .ok (.f (.int x))) : (sAsgF 23 (mZ (m2 modD (mH (mL intD (aCons (mH (m2 mulD (mH (mN (mVar 13))) (mH (mN (mVar 19))))) aNil))) (mH (mN (mVar 21)))))) (eX r xs (t) c2 c3 c4 c5 c6 c7 c8 c9 c10 c11 c12 (some (.int n)) c14 c15 c16 c17 c18 (some (.int a)) c20 (some (.int G)) c22 c23 c24 c25 c26 c27 c28 c29) = .nx (eX r xs (t) c2 c3 c4 c5 c6 c7 c8 c9 c10 c11 c12 (some (.int n)) c14 c15 c16 c17 c18 (some (.int a)) c20 (some (.int G)) c22 (some (.int x)) c24 c25 c26 c27 c28 c29) := by
  simp [hw, hd, eX]
theorem t18c {a G x : Int} {n : Nat} (hG : 0 < G) (hn : n < 1000) : mComp (mRng1 (aCons (mVar 13) aNil)) (tgN 22) [22] m_law_d46cc9_c2 m_law_d46cc9_e2 (eX r xs (t) c2 c3 c4 c5 c6 c7 c8 c9 c10 c11 c12 (some (.int (n : Int))) c14 c15 c16 c17 c18 (some (.int a)) c20 (some (.int G)) c22 (some (.int x)) c24 c25 c26 c27 c28 c29) = .ok (.l false ((inL a G x x n).map natD), (eX r xs (t) c2 c3 c4 c5 c6 c7 c8 c9 c10 c11 c12 (some (.int (n : Int))) c14 c15 c16 c17 c18 (some (.int a)) c20 (some (.int G)) c22 (some (.int x)) c24 c25 c26 c27 c28 c29)) := by
  unfold inL
  rw [← fm_rg]
  have r1 : mRng1 (aCons (mVar 13) aNil) (eX r xs (t) c2 c3 c4 c5 c6 c7 c8 c9 c10 c11 c12 (some (.int (n : Int))) c14 c15 c16 c17 c18 (some (.int a)) c20 (some (.int G)) c22 (some (.int x)) c24 c25 c26 c27 c28 c29) = .ok ((List.range n).map natD, (eX r xs (t) c2 c3 c4 c5 c6 c7 c8 c9 c10 c11 c12 (some (.int (n : Int))) c14 c15 c16 c17 c18 (some (.int a)) c20 (some (.int G)) c22 (some (.int x)) c24 c25 c26 c27 c28 c29)) := by
    have k := rng1_r (ma := aCons (mVar 13) aNil) (e := (eX r xs (t) c2 c3 c4 c5 c6 c7 c8 c9 c10 c11 c12 (some (.int (n : Int))) c14 c15 c16 c17 c18 (some (.int a)) c20 (some (.int G)) c22 (some (.int x)) c24 c25 c26 c27 c28 c29)) (e' := (eX r xs (t) c2 c3 c4 c5 c6 c7 c8 c9 c10 c11 c12 (some (.int (n : Int))) c14 c15 c16 c17 c18 (some (.int a)) c20 (some (.int G)) c22 (some (.int x)) c24 c25 c26 c27 c28 c29)) (n := (n : Int)) (by simp [eX]) (by omega) (by omega)
    rw [Int.toNat_natCast, rg_enc] at k
    exact k
  refine mComp_pure (is := [22]) _ r1 (tgOk_n 22) (by simp) (by simp [eX]) (hz_of (by rw [List.length_map, List.length_range]; omega)) fun y hy => ?_
  obtain ⟨k, hk, rfl⟩ := List.mem_map.mp hy
  have hk := List.mem_range.mp hk
  have w1 := mulD_i (show MulOk (k : Int) a from mulOk_l (by omega) (by omega))
  have d1 := modD_i (i := (k : Int) * a) hG
  have eI : InS a G x x k ↔ (k : Int) * a % G = x := by
    unfold InS
    omega
  refine ⟨(eX r xs (t) c2 c3 c4 c5 c6 c7 c8 c9 c10 c11 c12 (some (.int (n : Int))) c14 c15 c16 c17 c18 (some (.int a)) c20 (some (.int G)) (some (.int (k : Int))) (some (.int x)) c24 c25 c26 c27 c28 c29), by simp [wipeE, natD, eX], ?_, ?_⟩
  · generalize (k : Int) * a % G = z at *
    by_cases q1 : z = x
    · simp [m_law_d46cc9_c2, natD, pickD, eX, w1, d1, eI, q1]
    · simp [m_law_d46cc9_c2, natD, pickD, eX, w1, d1, eI, q1]
  · intro z hz
    have : z = .int (k : Int) := by
      unfold pickD natD at hz
      simp only at hz
      split at hz
      · exact (Option.some.inj hz).symm
      · cases hz
    subst this
    simp [m_law_d46cc9_e2, eX]
theorem t18 {z : M Ce} {ds : List D} {n a G x : D} (hz : z (eX r xs (t) c2 c3 c4 c5 c6 c7 c8 c9 c10 c11 c12 (some (n)) c14 c15 c16 c17 c18 (some (a)) c20 (some (G)) c22 (some (x)) c24 c25 c26 c27 c28 c29) = .ok (.l false ds, (eX r xs (t) c2 c3 c4 c5 c6 c7 c8 c9 c10 c11 c12 (some (n)) c14 c15 c16 c17 c18 (some (a)) c20 (some (G)) c22 (some (x)) c24 c25 c26 c27 c28 c29))) : sAsgF 24 (mZ z) (eX r xs (t) c2 c3 c4 c5 c6 c7 c8 c9 c10 c11 c12 (some (n)) c14 c15 c16 c17 c18 (some (a)) c20 (some (G)) c22 (some (x)) c24 c25 c26 c27 c28 c29) = .nx (eX r xs (t) c2 c3 c4 c5 c6 c7 c8 c9 c10 c11 c12 (some (n)) c14 c15 c16 c17 c18 (some (a)) c20 (some (G)) c22 (some (x)) (some (.list ds)) c25 c26 c27 c28 c29) := by
  have hio : ioAt (eX r xs (t) c2 c3 c4 c5 c6 c7 c8 c9 c10 c11 c12 (some (n)) c14 c15 c16 c17 c18 (some (a)) c20 (some (G)) c22 (some (x)) c24 c25 c26 c27 c28 c29) 24 = false := ioAt_f (a := c24) rfl
  rw [sAsgF_r, mZ_r, hz]
  show (if ioAt _ 24 = true then Out.no else Out.nx _) = _
  rw [hio]
  rfl
theorem t19 {n : Nat} {a G x : Int} {ns : List Nat} {o : Nat} (ho : ns.head?.getD n = o) (h1 : S_first_in [.f (.int a), .f (.int G), .f (.int x), .f (.int x)] = .ok (.f (natD o), [])) (h2 : S_like 2 [.f (natD o), .f (natD o)] = .ok (.f (.bool true), [])) : (sIf (mNot (mTru (mH (mCall (S_like 2) (aCons (aD (mZ (mCall S_first_in (aCons (aD (mVar 19)) (aCons (aD (mVar 21)) (aCons (aD (mVar 23)) (aCons (aD (mVar 23)) aNil))))))) (aCons (aD (mZ (mIf (mBool (m2 neD (mH (mN (mVar 24))) (mH (mLst aNil)))) (m2 ixD (mH (mN (mVar 24))) (mH (mN (mC (.int 0))))) (mN (mVar 13))))) aNil)))))) (sRet (mN (mC (.bool false)))) sNext) (eX r xs (t) c2 c3 c4 c5 c6 c7 c8 c9 c10 c11 c12 (some (natD n)) c14 c15 c16 c17 c18 (some (.int a)) c20 (some (.int G)) c22 (some (.int x)) (some (.list (ns.map natD))) c25 c26 c27 c28 c29) = .nx (eX r xs (t) c2 c3 c4 c5 c6 c7 c8 c9 c10 c11 c12 (some (natD n)) c14 c15 c16 c17 c18 (some (.int a)) c20 (some (.int G)) c22 (some (.int x)) (some (.list (ns.map natD))) c25 c26 c27 c28 c29) := by
  subst ho
  cases ns with
  | nil =>
    have e := ne_nil0
    simp only [List.head?_nil, Option.getD_none] at h1 h2
    generalize natD n = N at *
    simp [h1, h2, e, eX]
  | cons k ns =>
    have e := ne_nil k ns
    have y := ixD_ln (ds := natD k :: ns.map natD) (n := 0) (d := natD k) rfl
    rw [show ((0 : Nat) : Int) = 0 from rfl] at y
    simp only [List.head?_cons, Option.getD_some] at h1 h2
    rw [List.map_cons]
    generalize ns.map natD = ds at *
    generalize natD k = N at *
    generalize natD n = N2 at *
    simp [h1, h2, e, y, eX]
theorem t20 {d : Int} (h : S_draw [.l true [.list xs, .int t], .f (.int 40)] = .ok (.f (.int d), [.l true [.list xs, .int (t + 1)]])) : (sAsgF 25 (mZ (m2 addD (mH (mN (mC (.int 1)))) (mH (mCall S_draw (aCons (aS 1) (aCons (aD (mC (.int 40))) aNil))))))) (eX r xs (t) c2 c3 c4 c5 c6 c7 c8 c9 c10 c11 c12 c13 c14 c15 c16 c17 c18 c19 c20 c21 c22 c23 c24 c25 c26 c27 c28 c29) = .nx (eX r xs (t + 1) c2 c3 c4 c5 c6 c7 c8 c9 c10 c11 c12 c13 c14 c15 c16 c17 c18 c19 c20 c21 c22 c23 c24 (some (.int (1 + d))) c26 c27 c28 c29) := by
  simp [h, eX]
theorem t21 {m d : Int} (h : S_draw [.l true [.list xs, .int t], .f (.int m)] = .ok (.f (.int d), [.l true [.list xs, .int (t + 1)]])) : (sAsgF 19 (mZ (m2 addD (mH (mN (mC (.int 1)))) (mH (mCall S_draw (aCons (aS 1) (aCons (aD (mVar 16)) aNil))))))) (eX r xs (t) c2 c3 c4 c5 c6 c7 c8 c9 c10 c11 c12 c13 c14 c15 (some (.int m)) c17 c18 c19 c20 c21 c22 c23 c24 c25 c26 c27 c28 c29) = .nx (eX r xs (t + 1) c2 c3 c4 c5 c6 c7 c8 c9 c10 c11 c12 c13 c14 c15 (some (.int m)) c17 c18 (some (.int (1 + d))) c20 c21 c22 c23 c24 c25 c26 c27 c28 c29) := by
  simp [h, eX]
theorem t22c {a m : Nat} (hm0 : 0 < m) (hm : m < 1000) (ha : a < 1000) : mComp (mRng1 (aCons (mVar 16) aNil)) (tgN 22) [22] mYes m_law_d46cc9_e3 (eX r xs (t) c2 c3 c4 c5 c6 c7 c8 c9 c10 c11 c12 c13 c14 c15 (some (.int (m : Int))) c17 c18 (some (.int (a : Int))) c20 c21 c22 c23 c24 c25 c26 c27 c28 c29) = .ok (.l false ((restI a m m).map .int), (eX r xs (t) c2 c3 c4 c5 c6 c7 c8 c9 c10 c11 c12 c13 c14 c15 (some (.int (m : Int))) c17 c18 (some (.int (a : Int))) c20 c21 c22 c23 c24 c25 c26 c27 c28 c29)) := by
  unfold restI
  rw [List.map_map]
  refine comp_rg (n := m) _ (by simp [eX]) (tgOk_n 22) (by simp) (by simp [eX]) (hz_of (by omega)) fun k hk => ?_
  have w1 := mulD_i (show MulOk (k : Int) (a : Int) from mulOk_r' (by omega) (by omega))
  have d1 := modD_i (i := (k : Int) * (a : Int)) (j := (m : Int)) (by omega)
  have e : ((R a m k : Nat) : Int) = (k : Int) * a % m := by unfold R; rw [Int.natCast_emod, Int.natCast_mul]
  refine ⟨(eX r xs (t) c2 c3 c4 c5 c6 c7 c8 c9 c10 c11 c12 c13 c14 c15 (some (.int (m : Int))) c17 c18 (some (.int (a : Int))) c20 c21 (some (.int (k : Int))) c23 c24 c25 c26 c27 c28 c29), by simp [wipeE, eX], ?_⟩
  show _ = Rs.ok (D.int ((R a m k : Nat) : Int), _)
  rw [e]
  generalize (k : Int) * a % m = x at *
  simp [m_law_d46cc9_e3, eX, w1, d1]
theorem t22 {z : M Ce} {is : List Int} {m a : D} (hz : z (eX r xs (t) c2 c3 c4 c5 c6 c7 c8 c9 c10 c11 c12 c13 c14 c15 (some (m)) c17 c18 (some (a)) c20 c21 c22 c23 c24 c25 c26 c27 c28 c29) = .ok (.l false (is.map .int), (eX r xs (t) c2 c3 c4 c5 c6 c7 c8 c9 c10 c11 c12 c13 c14 c15 (some (m)) c17 c18 (some (a)) c20 c21 c22 c23 c24 c25 c26 c27 c28 c29))) (hl : is.length ≤ 4000) : sAsgF 26 (mZ (mSortSet (mZ z))) (eX r xs (t) c2 c3 c4 c5 c6 c7 c8 c9 c10 c11 c12 c13 c14 c15 (some (m)) c17 c18 (some (a)) c20 c21 c22 c23 c24 c25 c26 c27 c28 c29) = .nx (eX r xs (t) c2 c3 c4 c5 c6 c7 c8 c9 c10 c11 c12 c13 c14 c15 (some (m)) c17 c18 (some (a)) c20 c21 c22 c23 c24 c25 (some (.list ((srtU is).map .int))) c27 c28 c29) := by
  have k := sortSetD_i hl
  have hio : ioAt (eX r xs (t) c2 c3 c4 c5 c6 c7 c8 c9 c10 c11 c12 c13 c14 c15 (some (m)) c17 c18 (some (a)) c20 c21 c22 c23 c24 c25 c26 c27 c28 c29) 26 = false := ioAt_f (a := c26) rfl
  rw [sAsgF_r, mZ_r, mSortSet_r, mZ_r, hz]
  simp only [Rs.bind_ok, ce_d_l, k]
  show (if ioAt _ 26 = true then Out.no else Out.nx _) = _
  rw [hio]
  rfl
theorem t23 {X : List Int} : (sAsgF 27 (mZ (mL lenD (aCons (mH (mN (mVar 26))) aNil)))) (eX r xs (t) c2 c3 c4 c5 c6 c7 c8 c9 c10 c11 c12 c13 c14 c15 c16 c17 c18 c19 c20 c21 c22 c23 c24 c25 (some (.list (X.map .int))) c27 c28 c29) = .nx (eX r xs (t) c2 c3 c4 c5 c6 c7 c8 c9 c10 c11 c12 c13 c14 c15 c16 c17 c18 c19 c20 c21 c22 c23 c24 c25 (some (.list (X.map .int))) (some (.int (X.length : Int))) c28 c29) := by
  have e : (X.map D.int).length = X.length := by simp
  rw [← e]
  generalize X.map D.int = ds at *
  simp [eX]
theorem t24 {n u k : Int} (h : (if u < n then u else n) = k) : (sAsgF 25 (mZ (mL minD (aCons (mH (mN (mVar 25))) (aCons (mH (mN (mVar 27))) aNil))))) (eX r xs (t) c2 c3 c4 c5 c6 c7 c8 c9 c10 c11 c12 c13 c14 c15 c16 c17 c18 c19 c20 c21 c22 c23 c24 (some (.int n)) c26 (some (.int u)) c28 c29) = .nx (eX r xs (t) c2 c3 c4 c5 c6 c7 c8 c9 c10 c11 c12 c13 c14 c15 c16 c17 c18 c19 c20 c21 c22 c23 c24 (some (.int k)) c26 (some (.int u)) c28 c29) := by
  simp [h, eX]
theorem t25 {a m n T : D} (h1 : S_gaps [.f a, .f m, .f n] = .ok (.f T, [])) (h2 : S_law_gaps [.f a, .f m, .f n] = .ok (.f T, [])) (h3 : S_like 2 [.f T, .f T] = .ok (.f (.bool true), [])) : (sIf (mNot (mTru (mH (mCall (S_like 2) (aCons (aD (mZ (mCall S_gaps (aCons (aD (mVar 19)) (aCons (aD (mVar 16)) (aCons (aD (mVar 25)) aNil)))))) (aCons (aD (mZ (mCall S_law_gaps (aCons (aD (mVar 19)) (aCons (aD (mVar 16)) (aCons (aD (mVar 25)) aNil)))))) aNil)))))) (sRet (mN (mC (.bool false)))) sNext) (eX r xs (t) c2 c3 c4 c5 c6 c7 c8 c9 c10 c11 c12 c13 c14 c15 (some (m)) c17 c18 (some (a)) c20 c21 c22 c23 c24 (some (n)) c26 c27 c28 c29) = .nx (eX r xs (t) c2 c3 c4 c5 c6 c7 c8 c9 c10 c11 c12 c13 c14 c15 (some (m)) c17 c18 (some (a)) c20 c21 c22 c23 c24 (some (n)) c26 c27 c28 c29) := by
  simp [h1, h2, h3, eX]
theorem t26 {G w x : Int} (hd : fdivD (.int G) (.int 5) = .ok (.f (.int w))) (hw : mulD (.int w) (.int 2) = .ok (.f (.int x))) : (sAsgF 19 (mZ (m2 addD (mH (m2 mulD (mH (m2 fdivD (mH (mN (mVar 21))) (mH (mN (mC (.int 5)))))) (mH (mN (mC (.int 2)))))) (mH (mN (mC (.int 1))))))) (eX r xs (t) c2 c3 c4 c5 c6 c7 c8 c9 c10 c11 c12 c13 c14 c15 c16 c17 c18 c19 c20 (some (.int G)) c22 c23 c24 c25 c26 c27 c28 c29) = .nx (eX r xs (t) c2 c3 c4 c5 c6 c7 c8 c9 c10 c11 c12 c13 c14 c15 c16 c17 c18 (some (.int (x + 1))) c20 (some (.int G)) c22 c23 c24 c25 c26 c27 c28 c29) := by
  simp [hd, hw, eX]
theorem t27y {a G : D} {g : Int} (h : S_gcd [.f a, .f G] = .ok (.f (.int g), [])) (hg : 1 < g) {s : En → Out} : sSeq (sIf (mBool (m2 gtD (mH (mCall S_gcd (aCons (aD (mVar 19)) (aCons (aD (mVar 21)) aNil)))) (mH (mN (mC (.int 1)))))) (sRet (mN (mC (.bool true)))) sNext) s (eX r xs (t) c2 c3 c4 c5 c6 c7 c8 c9 c10 c11 c12 c13 c14 c15 c16 c17 c18 (some (a)) c20 (some (G)) c22 c23 c24 c25 c26 c27 c28 c29) = .rt (.f (.bool true)) (eX r xs (t) c2 c3 c4 c5 c6 c7 c8 c9 c10 c11 c12 c13 c14 c15 c16 c17 c18 (some (a)) c20 (some (G)) c22 c23 c24 c25 c26 c27 c28 c29) := by
  simp [h, hg, eX]
theorem t27n {a G : D} {g : Int} (h : S_gcd [.f a, .f G] = .ok (.f (.int g), [])) (hg : ¬ 1 < g) : (sIf (mBool (m2 gtD (mH (mCall S_gcd (aCons (aD (mVar 19)) (aCons (aD (mVar 21)) aNil)))) (mH (mN (mC (.int 1)))))) (sRet (mN (mC (.bool true)))) sNext) (eX r xs (t) c2 c3 c4 c5 c6 c7 c8 c9 c10 c11 c12 c13 c14 c15 c16 c17 c18 (some (a)) c20 (some (G)) c22 c23 c24 c25 c26 c27 c28 c29) = .nx (eX r xs (t) c2 c3 c4 c5 c6 c7 c8 c9 c10 c11 c12 c13 c14 c15 c16 c17 c18 (some (a)) c20 (some (G)) c22 c23 c24 c25 c26 c27 c28 c29) := by
  simp [h, hg, eX]
theorem t28 {d : Int} (h : S_draw [.l true [.list xs, .int t], .f (.int 900)] = .ok (.f (.int d), [.l true [.list xs, .int (t + 1)]])) : (sAsgF 25 (mZ (m2 addD (mH (mN (mC (.int 3000)))) (mH (mCall S_draw (aCons (aS 1) (aCons (aD (mC (.int 900))) aNil))))))) (eX r xs (t) c2 c3 c4 c5 c6 c7 c8 c9 c10 c11 c12 c13 c14 c15 c16 c17 c18 c19 c20 c21 c22 c23 c24 c25 c26 c27 c28 c29) = .nx (eX r xs (t + 1) c2 c3 c4 c5 c6 c7 c8 c9 c10 c11 c12 c13 c14 c15 c16 c17 c18 c19 c20 c21 c22 c23 c24 (some (.int (3000 + d))) c26 c27 c28 c29) := by
  simp [h, eX]
theorem t29 {a G n T : D} (h : S_gaps [.f a, .f G, .f n] = .ok (.f T, [])) : (sAsgF 8 (mZ (mCall S_gaps (aCons (aD (mVar 19)) (aCons (aD (mVar 21)) (aCons (aD (mVar 25)) aNil)))))) (eX r xs (t) c2 c3 c4 c5 c6 c7 c8 c9 c10 c11 c12 c13 c14 c15 c16 c17 c18 (some (a)) c20 (some (G)) c22 c23 c24 (some (n)) c26 c27 c28 c29) = .nx (eX r xs (t) c2 c3 c4 c5 c6 c7 (some (T)) c9 c10 c11 c12 c13 c14 c15 c16 c17 c18 (some (a)) c20 (some (G)) c22 c23 c24 (some (n)) c26 c27 c28 c29) := by
  simp [h, eX]
theorem tg2 {x : Int × Int} {T : D} : tgT [(tgN 28), (tgN 29)] (pDD x) (wipeE (eX r xs (t) c2 c3 c4 c5 c6 c7 (some (T)) c9 c10 c11 c12 c13 c14 c15 c16 c17 c18 c19 c20 c21 c22 c23 c24 c25 c26 c27 c28 c29) [28, 29]) = .ok (eX r xs (t) c2 c3 c4 c5 c6 c7 (some (T)) c9 c10 c11 c12 c13 c14 c15 c16 c17 c18 c19 c20 c21 c22 c23 c24 c25 c26 c27 (some (.int x.1)) (some (.int x.2))) := by
  simp [wipeE, pDD, eX]
theorem t30c {l : List (Int × Int)} (hl : l.length ≤ 3) : mComp (mSeqA (mVar 8)) (tgT [(tgN 28), (tgN 29)]) [28, 29] mYes m_law_d46cc9_e4 (eX r xs (t) c2 c3 c4 c5 c6 c7 (some (.tuple (l.map pDD))) c9 c10 c11 c12 c13 c14 c15 c16 c17 c18 c19 c20 c21 c22 c23 c24 c25 c26 c27 c28 c29) = .ok (.l false ((l.map (·.2)).map .int), (eX r xs (t) c2 c3 c4 c5 c6 c7 (some (.tuple (l.map pDD))) c9 c10 c11 c12 c13 c14 c15 c16 c17 c18 c19 c20 c21 c22 c23 c24 c25 c26 c27 c28 c29)) := by
  rw [List.map_map]
  refine mComp_of l pDD _ (by simp [eX]) (tgOk_t (.cons (tgOk_n 28) (.cons (tgOk_n 29) .nil))) (by simp) (by simp [eX]) (hz_of (by omega)) fun x hx => ⟨_, tg2, ?_⟩
  generalize l.map pDD = ds at *
  simp [m_law_d46cc9_e4, eX]
theorem t31c {l : List (Int × Int)} (hl : l.length ≤ 3) (hb : ∀ x ∈ l, -100000 < x.2 ∧ x.2 < 100000) : mComp (mSeqA (mVar 8)) (tgT [(tgN 28), (tgN 29)]) [28, 29] mYes m_law_d46cc9_e5 (eX r xs (t) c2 c3 c4 c5 c6 c7 (some (.tuple (l.map pDD))) c9 c10 c11 c12 c13 c14 c15 c16 c17 c18 c19 c20 c21 c22 c23 c24 c25 c26 c27 c28 c29) = .ok (.l false ((l.map fun x => x.1 * x.2).map .int), (eX r xs (t) c2 c3 c4 c5 c6 c7 (some (.tuple (l.map pDD))) c9 c10 c11 c12 c13 c14 c15 c16 c17 c18 c19 c20 c21 c22 c23 c24 c25 c26 c27 c28 c29)) := by
  rw [List.map_map]
  refine mComp_of l pDD _ (by simp [eX]) (tgOk_t (.cons (tgOk_n 28) (.cons (tgOk_n 29) .nil))) (by simp) (by simp [eX]) (hz_of (by omega)) fun x hx => ⟨_, tg2, ?_⟩
  have hb := hb x hx
  have w := mulD_i (show MulOk x.1 x.2 from mulOk_r' (by omega) (by omega))
  show _ = Rs.ok (D.int (x.1 * x.2), _)
  generalize x.1 * x.2 = y at *
  generalize l.map pDD = ds at *
  simp [m_law_d46cc9_e5, eX, w]
end
theorem t30 {z : M Ce} {e : En} {ds us : List D} {n : Int} (h8 : e[8]? = some (some (.f (.tuple ds)))) (h25 : e[25]? = some (some (.f (.int n)))) (hz : z e = .ok (.l false us, e)) (hs : sumD [.list us] = .ok (.f (.int n))) (l1 : 1 ≤ ds.length) (l3 : ds.length ≤ 3) : sIf (mOr (mNot (mTru (mH (mN (mIs "tuple" (mH (mN (mVar 8)))))))) (mOr (mNot (mBool (mChain leD leD (mH (mN (mC (.int 1)))) (mH (mL lenD (aCons (mH (mN (mVar 8))) aNil))) (mH (mN (mC (.int 3))))))) (mBool (m2 neD (mH (mL sumD (aCons (mH z) aNil))) (mH (mN (mVar 25))))))) (sRet (mN (mC (.bool false)))) sNext e = .nx e := by
  have a1 : (1 : Int) ≤ (ds.length : Int) := by omega
  have a2 : (ds.length : Int) ≤ 3 := by omega
  simp [h8, h25, hz, hs, a1, a2, D.truth]
theorem t31s {z : M Ce} {e : En} {ds us : List D} {G : Int} (h8 : e[8]? = some (some (.f (.tuple ds)))) (h21 : e[21]? = some (some (.f (.int G)))) (hz : z e = .ok (.l false us, e)) (hs : sumD [.list us] = .ok (.f (.int G))) (l3 : ds.length < 3) : sRet (mAndV (m2 eqD (mH (mL sumD (aCons (mH z) aNil))) (mH (mN (mVar 21)))) (mOrV (m2 ltD (mH (mL lenD (aCons (mH (mN (mVar 8))) aNil))) (mH (mN (mC (.int 3))))) (m2 eqD (mH (m2 ixD (mH (m2 ixD (mH (mN (mVar 8))) (mH (mN (mC (.int 2)))))) (mH (mN (mC (.int 0)))))) (mH (m2 addD (mH (m2 ixD (mH (m2 ixD (mH (mN (mVar 8))) (mH (mN (mC (.int 0)))))) (mH (mN (mC (.int 0)))))) (mH (m2 ixD (mH (m2 ixD (mH (mN (mVar 8))) (mH (mN (mC (.int 1)))))) (mH (mN (mC (.int 0))))))))))) e = .rt (.f (.bool true)) e := by
  have a1 : (ds.length : Int) < 3 := by omega
  simp [h8, h21, hz, hs, a1]
theorem t31t {z : M Ce} {e : En} {x y w : Int × Int} {us : List D} {G : Int} (h8 : e[8]? = some (some (.f (.tuple [pDD x, pDD y, pDD w])))) (h21 : e[21]? = some (some (.f (.int G)))) (hz : z e = .ok (.l false us, e)) (hs : sumD [.list us] = .ok (.f (.int G))) (hw : w.1 = x.1 + y.1) : sRet (mAndV (m2 eqD (mH (mL sumD (aCons (mH z) aNil))) (mH (mN (mVar 21)))) (mOrV (m2 ltD (mH (mL lenD (aCons (mH (mN (mVar 8))) aNil))) (mH (mN (mC (.int 3))))) (m2 eqD (mH (m2 ixD (mH (m2 ixD (mH (mN (mVar 8))) (mH (mN (mC (.int 2)))))) (mH (mN (mC (.int 0)))))) (mH (m2 addD (mH (m2 ixD (mH (m2 ixD (mH (mN (mVar 8))) (mH (mN (mC (.int 0)))))) (mH (mN (mC (.int 0)))))) (mH (m2 ixD (mH (m2 ixD (mH (mN (mVar 8))) (mH (mN (mC (.int 1)))))) (mH (mN (mC (.int 0))))))))))) e = .rt (.f (.bool true)) e := by
  have x2 : ixD (.tuple [pDD x, pDD y, pDD w]) (.int 2) = .ok (.f (pDD w)) := rfl
  have x0 : ixD (.tuple [pDD x, pDD y, pDD w]) (.int 0) = .ok (.f (pDD x)) := rfl
  have x1 : ixD (.tuple [pDD x, pDD y, pDD w]) (.int 1) = .ok (.f (pDD y)) := rfl
  have y0 : ∀ p : Int × Int, ixD (pDD p) (.int 0) = .ok (.f (.int p.1)) := fun _ => rfl
  simp [h8, h21, hz, hs, x2, x0, x1, y0, hw]
end Lk23


namespace Lk23
open PySem L2 DL PyProof.Rows Md Sh ShW ShN
/-! ### the law: joined -/
section
variable {r : D} {xs : List D} {t : Int} {c2 c3 c4 c5 c6 c7 c8 c9 c10 c11 c12 c13 c14 c15 c16 c17 c18 c19 c20 c21 c22 c23 c24 c25 c26 c27 c28 c29 : Option D}
theorem lk_pp {l : List (Int × Int)} (h : l.length ≤ 10000000) : S_like 2 [.f (.tuple (l.map pDD)), .f (.tuple (l.map pDD))] = .ok (.f (.bool true), []) := by
  refine like_r ?_
  show (decide ((l.map pDD).length ≤ 10000000) && (l.map pDD).all (lk 1)) = true
  rw [Bool.and_eq_true]
  refine ⟨decide_eq_true (by rw [List.length_map]; exact h), List.all_eq_true.mpr fun d hd => ?_⟩
  obtain ⟨x, _, rfl⟩ := List.mem_map.mp hd
  rfl
theorem lkN (n : Nat) : S_like 2 [.f (natD n), .f (natD n)] = .ok (.f (.bool true), []) := like_r rfl
theorem lkO (o : Option Nat) : S_like 2 [.f (oD o), .f (oD o)] = .ok (.f (.bool true), []) := like_r (by cases o <;> rfl)
/-- the rest of the law, behind the late ones: spans of small numbers -/
theorem part1 {T : En → Out} {c13 : Option D} (hx : xs.all D.isI = true) (h0 : 0 ≤ t) (h1 : t < 500) : ∃ (m : Nat) (c13' c17' c18' c19' c20' : Option D), 2 ≤ m ∧ m ≤ 201 ∧ sSeq (sAsgF 16 (mZ (m2 addD (mH (mN (mC (.int 2)))) (mH (mCall S_draw (aCons (aS 1) (aCons (aD (mC (.int 200))) aNil))))))) (sSeq (sAsgF 17 (mZ (mCall S_draw (aCons (aS 1) (aCons (aD (mVar 16)) aNil))))) (sSeq (sAsgF 18 (mZ (mL minD (aCons (mH (m2 subD (mH (mN (mVar 16))) (mH (mN (mC (.int 1)))))) (aCons (mH (m2 addD (mH (mN (mVar 17))) (mH (mCall S_draw (aCons (aS 1) (aCons (aD (mC (.int 9))) aNil)))))) aNil))))) (sSeq (sAsgF 19 (mZ (m2 subD (mH (mCall S_draw (aCons (aS 1) (aCons (aD (mC (.int 400))) aNil)))) (mH (mN (mC (.int 200))))))) (sSeq (sAsgF 20 (mZ (mComp (mRng1 (aCons (mVar 16) aNil)) (tgN 13) [13] m_law_d46cc9_c1 m_law_d46cc9_e1))) (sSeq (sIf (mNot (mTru (mH (mCall (S_like 2) (aCons (aD (mZ (mCall S_first_in (aCons (aD (mVar 19)) (aCons (aD (mVar 16)) (aCons (aD (mVar 17)) (aCons (aD (mVar 18)) aNil))))))) (aCons (aD (mZ (mIf (mBool (m2 neD (mH (mN (mVar 20))) (mH (mLst aNil)))) (m2 ixD (mH (mN (mVar 20))) (mH (mN (mC (.int 0))))) (mN (mC .none))))) aNil)))))) (sRet (mN (mC (.bool false)))) sNext) T))))) (eX r xs (t) c2 c3 c4 c5 c6 c7 c8 c9 c10 c11 c12 c13 c14 c15 c16 c17 c18 c19 c20 c21 c22 c23 c24 c25 c26 c27 c28 c29) = T (eX r xs (t + 4) c2 c3 c4 c5 c6 c7 c8 c9 c10 c11 c12 c13 c14 c15 (some (.int (m : Int))) c17' c18' c19' c20' c21 c22 c23 c24 c25 c26 c27 c28 c29) := by
  obtain ⟨d1, D1, l1⟩ := drN hx (t := t) (m := 200) h0 (by omega) (by decide) (by decide)
  obtain ⟨d2, D2, l2⟩ := drN hx (t := t + 1) (m := 2 + d1) (by omega) (by omega) (by omega) (by omega)
  obtain ⟨d3, D3, l3⟩ := drN hx (t := t + 1 + 1) (m := 9) (by omega) (by omega) (by decide) (by decide)
  obtain ⟨d4, D4, l4⟩ := drN hx (t := t + 1 + 1 + 1) (m := 400) (by omega) (by omega) (by decide) (by decide)
  have em : ((2 + d1 : Nat) : Int) = 2 + (d1 : Int) := by omega
  rw [em] at D2
  obtain ⟨hi, hh⟩ : ∃ hi : Int, (if (d2 : Int) + d3 < (2 + (d1 : Int)) - 1 then (d2 : Int) + d3 else (2 + (d1 : Int)) - 1) = hi := ⟨_, rfl⟩
  have hb : (d2 : Int) ≤ hi ∧ hi < 2 + (d1 : Int) := by
    rw [← hh]
    split <;> omega
  obtain ⟨o, f1, f2⟩ := first_in_r (a := (d4 : Int) - 200) (m := 2 + (d1 : Int)) (lo := (d2 : Int)) (hi := hi) (by omega) (by omega) (by omega) hb.1 hb.2
  have head : (inL ((d4 : Int) - 200) (2 + (d1 : Int)) d2 hi (2 + d1)).head? = o := by
    refine head_least ?_ fun k hk => ?_
    · exact f2.congr fun n => by rw [decide_eq_true_eq]
    · subst hk
      have := in_lt (by omega) f2
      omega
  have c := t12c (r := r) (xs := xs) (t := t + 1 + 1 + 1 + 1) (c2 := c2) (c3 := c3) (c4 := c4) (c5 := c5) (c6 := c6) (c7 := c7) (c8 := c8) (c9 := c9) (c10 := c10) (c11 := c11) (c12 := c12) (c13 := c13) (c14 := c14) (c15 := c15) (c20 := c20) (c21 := c21) (c22 := c22) (c23 := c23) (c24 := c24) (c25 := c25) (c26 := c26) (c27 := c27) (c28 := c28) (c29 := c29) (a := (d4 : Int) - 200) (m := 2 + (d1 : Int)) (lo := (d2 : Int)) (hi := hi) (M := 2 + d1) em.symm (by omega) (by omega) ⟨by omega, by omega⟩
  refine ⟨2 + d1, c13, some (.int d2), some (.int hi), some (.int ((d4 : Int) - 200)), some (.list ((inL ((d4 : Int) - 200) (2 + (d1 : Int)) d2 hi (2 + d1)).map natD)), by omega, by omega, ?_⟩
  rw [seq_nx (t8 D1), seq_nx (t9 D2), seq_nx (t10 D3 hh), seq_nx (t11 D4), seq_nx (t12 c), seq_nx (t13 head f1 (lkO o)), em, show t + 1 + 1 + 1 + 1 = t + 4 by omega]
/-- planted in great circles -/
theorem part2 {T : En → Out} (hx : xs.all D.isI = true) (h0 : 0 ≤ t) (h1 : t < 500) : ∃ (G : Nat) (t' : Int) (c13' c19' c22' c23' c24' : Option D), t ≤ t' ∧ t' ≤ t + 20 ∧ 1009 ^ 3 ≤ G ∧ G < 2 ^ 130 ∧ sSeq (sAsgF 21 (mC (.int 1))) (sSeq (sFor (mRng1 (aCons (mZ (m2 addD (mH (mN (mC (.int 3)))) (mH (mCall S_draw (aCons (aS 1) (aCons (aD (mC (.int 9))) aNil)))))) aNil)) (tgN 22) (m_law_d46cc9_b3 S_draw)) (sSeq (sTgt (tgT [(tgN 19), (tgN 13)]) (mTup (aCons (mZ (m2 addD (mH (m2 fdivD (mH (mN (mVar 21))) (mH (mN (mC (.int 3)))))) (mH (mCall S_draw (aCons (aS 1) (aCons (aD (mC (.int 900))) aNil)))))) (aCons (mZ (mCall S_draw (aCons (aS 1) (aCons (aD (mC (.int 900))) aNil)))) aNil)))) (sSeq (sAsgF 23 (mZ (m2 modD (mH (mL intD (aCons (mH (m2 mulD (mH (mN (mVar 13))) (mH (mN (mVar 19))))) aNil))) (mH (mN (mVar 21)))))) (sSeq (sAsgF 24 (mZ (mComp (mRng1 (aCons (mVar 13) aNil)) (tgN 22) [22] m_law_d46cc9_c2 m_law_d46cc9_e2))) (sSeq (sIf (mNot (mTru (mH (mCall (S_like 2) (aCons (aD (mZ (mCall S_first_in (aCons (aD (mVar 19)) (aCons (aD (mVar 21)) (aCons (aD (mVar 23)) (aCons (aD (mVar 23)) aNil))))))) (aCons (aD (mZ (mIf (mBool (m2 neD (mH (mN (mVar 24))) (mH (mLst aNil)))) (m2 ixD (mH (mN (mVar 24))) (mH (mN (mC (.int 0))))) (mN (mVar 13))))) aNil)))))) (sRet (mN (mC (.bool false)))) sNext) T))))) (eX r xs (t) c2 c3 c4 c5 c6 c7 c8 c9 c10 c11 c12 c13 c14 c15 c16 c17 c18 c19 c20 c21 c22 c23 c24 c25 c26 c27 c28 c29) = T (eX r xs (t') c2 c3 c4 c5 c6 c7 c8 c9 c10 c11 c12 c13' c14 c15 c16 c17 c18 c19' c20 (some (.int (G : Int))) c22' c23' c24' c25 c26 c27 c28 c29) := by
  obtain ⟨G, k, x22, g1, gk, g2, g3⟩ := greats (r := r) (t := t) (c2 := c2) (c3 := c3) (c4 := c4) (c5 := c5) (c6 := c6) (c7 := c7) (c8 := c8) (c9 := c9) (c10 := c10) (c11 := c11) (c12 := c12) (c13 := c13) (c14 := c14) (c15 := c15) (c16 := c16) (c17 := c17) (c18 := c18) (c19 := c19) (c20 := c20) (c22 := c22) (c23 := c23) (c24 := c24) (c25 := c25) (c26 := c26) (c27 := c27) (c28 := c28) (c29 := c29) hx h0 (by omega)
  have G0 : 0 < G := Nat.lt_of_lt_of_le (by decide) g2
  obtain ⟨d1, D1, l1⟩ := drN hx (t := t + 1 + k) (m := 900) (by omega) (by omega) (by decide) (by decide)
  obtain ⟨n, D2, l2⟩ := drN hx (t := t + 1 + k + 1) (m := 900) (by omega) (by omega) (by decide) (by decide)
  have q1 := fdivD_i (i := (G : Int)) (divS (b := 3) (by decide) (by decide))
  obtain ⟨a, ea⟩ : ∃ a : Int, (G : Int) / 3 + d1 = a := ⟨_, rfl⟩
  have w1 := mulD_i (show MulOk (n : Int) a from mulOk_l (by omega) (by omega))
  have m1 := modD_i (i := (n : Int) * a) (j := (G : Int)) (by omega)
  have r0 := Int.emod_nonneg ((n : Int) * a) (show (G : Int) ≠ 0 by omega)
  have r1 := Int.emod_lt_of_pos ((n : Int) * a) (show (0 : Int) < G by omega)
  have hn : InS a G ((n : Int) * a % G) ((n : Int) * a % G) n := ⟨Int.le_refl _, Int.le_refl _⟩
  obtain ⟨x, ex⟩ : ∃ x : Int, (n : Int) * a % G = x := ⟨_, rfl⟩
  rw [ex] at m1 r0 r1 hn
  obtain ⟨o, f1, f2⟩ := first_in_r (a := a) (m := (G : Int)) (lo := x) (hi := x) (by omega) (by omega) r0 (Int.le_refl _) r1
  cases o with
  | none => exact (f2 n hn).elim
  | some l =>
    have ln : l ≤ n := by
      rcases Nat.lt_or_ge n l with z | z
      · exact (f2.2 n z hn).elim
      · exact z
    have head : (inL a G x x n).head?.getD n = l := by
      rcases Nat.lt_or_ge l n with z | z
      · have : (inL a G x x n).head? = some l := head_least (f2.congr fun n => by rw [decide_eq_true_eq]) fun k hk => by cases hk; exact z
        rw [this]
        rfl
      · have e : l = n := by omega
        have : inL a G x x n = [] := List.filter_eq_nil_iff.mpr fun k hk => by
          have := f2.2 k (by have := List.mem_range.mp hk; omega)
          simpa using this
        rw [this, e]
        rfl
    have c := t18c (r := r) (xs := xs) (t := t + 1 + k + 1 + 1) (c2 := c2) (c3 := c3) (c4 := c4) (c5 := c5) (c6 := c6) (c7 := c7) (c8 := c8) (c9 := c9) (c10 := c10) (c11 := c11) (c12 := c12) (c14 := c14) (c15 := c15) (c16 := c16) (c17 := c17) (c18 := c18) (c20 := c20) (c22 := x22) (c24 := c24) (c25 := c25) (c26 := c26) (c27 := c27) (c28 := c28) (c29 := c29) (a := a) (G := (G : Int)) (x := x) (n := n) (by omega) (by omega)
    have s16 := t16 (r := r) (c2 := c2) (c3 := c3) (c4 := c4) (c5 := c5) (c6 := c6) (c7 := c7) (c8 := c8) (c9 := c9) (c10 := c10) (c11 := c11) (c12 := c12) (c13 := c13) (c14 := c14) (c15 := c15) (c16 := c16) (c17 := c17) (c18 := c18) (c19 := c19) (c20 := c20) (c22 := x22) (c23 := c23) (c24 := c24) (c25 := c25) (c26 := c26) (c27 := c27) (c28 := c28) (c29 := c29) q1 D1 D2
    rw [ea] at s16
    have s17 := t17 (r := r) (xs := xs) (t := t + 1 + k + 1 + 1) (c2 := c2) (c3 := c3) (c4 := c4) (c5 := c5) (c6 := c6) (c7 := c7) (c8 := c8) (c9 := c9) (c10 := c10) (c11 := c11) (c12 := c12) (c14 := c14) (c15 := c15) (c16 := c16) (c17 := c17) (c18 := c18) (c20 := c20) (c22 := x22) (c23 := c23) (c24 := c24) (c25 := c25) (c26 := c26) (c27 := c27) (c28 := c28) (c29 := c29) w1 m1
    refine ⟨G, t + 1 + k + 1 + 1, some (natD n), some (.int a), x22, some (.int x), some (.list ((inL a G x x n).map natD)), by omega, by omega, g2, g3, ?_⟩
    have s19 := t19 (r := r) (xs := xs) (t := t + 1 + k + 1 + 1) (c2 := c2) (c3 := c3) (c4 := c4) (c5 := c5) (c6 := c6) (c7 := c7) (c8 := c8) (c9 := c9) (c10 := c10) (c11 := c11) (c12 := c12) (c14 := c14) (c15 := c15) (c16 := c16) (c17 := c17) (c18 := c18) (c20 := c20) (c22 := x22) (c25 := c25) (c26 := c26) (c27 := c27) (c28 := c28) (c29 := c29) (n := n) (a := a) (G := (G : Int)) (x := x) head f1 (lkN l)
    exact (seq_nx t14).trans ((seq_nx g1).trans ((seq_nx s16).trans ((seq_nx s17).trans ((seq_nx (t18 c)).trans (seq_nx s19)))))
/-- small circles cut -/
theorem part3 {T : En → Out} {m : Nat} (hm : 2 ≤ m) (hm2 : m ≤ 201) (hx : xs.all D.isI = true) (h0 : 0 ≤ t) (h1 : t < 500) : ∃ (c19' c25' c26' c27' : Option D), sSeq (sAsgF 25 (mZ (m2 addD (mH (mN (mC (.int 1)))) (mH (mCall S_draw (aCons (aS 1) (aCons (aD (mC (.int 40))) aNil))))))) (sSeq (sAsgF 19 (mZ (m2 addD (mH (mN (mC (.int 1)))) (mH (mCall S_draw (aCons (aS 1) (aCons (aD (mVar 16)) aNil))))))) (sSeq (sAsgF 26 (mZ (mSortSet (mZ (mComp (mRng1 (aCons (mVar 16) aNil)) (tgN 22) [22] mYes m_law_d46cc9_e3))))) (sSeq (sAsgF 27 (mZ (mL lenD (aCons (mH (mN (mVar 26))) aNil)))) (sSeq (sAsgF 25 (mZ (mL minD (aCons (mH (mN (mVar 25))) (aCons (mH (mN (mVar 27))) aNil))))) (sSeq (sIf (mNot (mTru (mH (mCall (S_like 2) (aCons (aD (mZ (mCall S_gaps (aCons (aD (mVar 19)) (aCons (aD (mVar 16)) (aCons (aD (mVar 25)) aNil)))))) (aCons (aD (mZ (mCall S_law_gaps (aCons (aD (mVar 19)) (aCons (aD (mVar 16)) (aCons (aD (mVar 25)) aNil)))))) aNil)))))) (sRet (mN (mC (.bool false)))) sNext) T))))) (eX r xs (t) c2 c3 c4 c5 c6 c7 c8 c9 c10 c11 c12 c13 c14 c15 (some (.int (m : Int))) c17 c18 c19 c20 c21 c22 c23 c24 c25 c26 c27 c28 c29) = T (eX r xs (t + 2) c2 c3 c4 c5 c6 c7 c8 c9 c10 c11 c12 c13 c14 c15 (some (.int (m : Int))) c17 c18 c19' c20 c21 c22 c23 c24 c25' c26' c27' c28 c29) := by
  obtain ⟨d1, D1, l1⟩ := drN hx (t := t) (m := 40) h0 (by omega) (by decide) (by decide)
  obtain ⟨d2, D2, l2⟩ := drN hx (t := t + 1) (m := m) (by omega) (by omega) (by omega) (by omega)
  have ea : (1 : Int) + (d2 : Int) = ((1 + d2 : Nat) : Int) := by omega
  have c := t22c (r := r) (xs := xs) (t := t + 1 + 1) (c2 := c2) (c3 := c3) (c4 := c4) (c5 := c5) (c6 := c6) (c7 := c7) (c8 := c8) (c9 := c9) (c10 := c10) (c11 := c11) (c12 := c12) (c13 := c13) (c14 := c14) (c15 := c15) (c17 := c17) (c18 := c18) (c20 := c20) (c21 := c21) (c22 := c22) (c23 := c23) (c24 := c24) (c25 := some (.int (1 + (d1 : Int)))) (c26 := c26) (c27 := c27) (c28 := c28) (c29 := c29) (a := 1 + d2) (m := m) (by omega) (by omega) (by omega)
  have hX : 0 < (srtU (restI (1 + d2) m m)).length := by
    have h0 : ((R (1 + d2) m 0 : Nat) : Int) ∈ srtU (restI (1 + d2) m m) := mem_srtU.mpr (List.mem_map.mpr ⟨0, List.mem_range.mpr (by omega), rfl⟩)
    exact List.length_pos_of_mem h0
  obtain ⟨n, hn⟩ : ∃ n : Nat, (if (srtU (restI (1 + d2) m m)).length < 1 + d1 then (srtU (restI (1 + d2) m m)).length else 1 + d1) = n := ⟨_, rfl⟩
  have nb : 0 < n ∧ n ≤ (srtU (restI (1 + d2) m m)).length ∧ n ≤ 40 := by
    rw [← hn]
    split <;> omega
  have hn' : (if ((srtU (restI (1 + d2) m m)).length : Int) < 1 + (d1 : Int) then ((srtU (restI (1 + d2) m m)).length : Int) else 1 + (d1 : Int)) = (n : Int) := by
    rw [← hn]
    split <;> split <;> omega
  have LG := law_gaps_r (a := 1 + d2) (m := m) (n := n) (by omega) (by omega) nb.1 (by omega)
  obtain ⟨l, ll, g1, g2⟩ : ∃ l : List (Int × Int), l.length ≤ 10000000 ∧ S_gaps [.f (.int ((1 + d2 : Nat) : Int)), .f (.int (m : Int)), .f (.int (n : Int))] = .ok (.f (.tuple (l.map pDD)), []) ∧ S_law_gaps [.f (.int ((1 + d2 : Nat) : Int)), .f (.int (m : Int)), .f (.int (n : Int))] = .ok (.f (.tuple (l.map pDD)), []) := by
    rcases Nat.lt_or_ge n 2 with z | z
    · have : n = 1 := by omega
      subst this
      refine ⟨[((m : Int), 1)], by simp, gaps_one _ _, ?_⟩
      rw [LG]
      have e1 : restI (1 + d2) m 1 = [0] := by
        simp [restI, R, List.range_succ]
      have e2 : srtU (restI (1 + d2) m 1) = [0] := by rw [e1]; rfl
      have e3 : sizesI m (srtU (restI (1 + d2) m 1)) = [(m : Int)] := by
        rw [e2]
        simp [sizesI]
      rw [e3]
      simp [srtU, insU, cntI]
    · obtain ⟨p, q, u, v, h, hu, hv, hnn, hg⟩ := gaps_r (a := 1 + d2) (m := m) (n := n) (by omega) (by omega) z (by omega) (far_small (by omega) nb.2.1)
      refine ⟨srtP (gps p q u v n), ?_, hg, ?_⟩
      · have := (told_ok h hu hv hnn).l3
        omega
      · rw [LG]
        have e := gaps_law h hu hv hnn
        rw [← e, List.map_map]
        rfl
  rw [← ea] at g1 g2 c
  have hl : (restI (1 + d2) m m).length ≤ 4000 := by rw [restI_len]; omega
  refine ⟨some (.int (1 + (d2 : Int))), some (.int (n : Int)), some (.list ((srtU (restI (1 + d2) m m)).map .int)), some (.int ((srtU (restI (1 + d2) m m)).length : Int)), ?_⟩
  rw [seq_nx (t20 D1), seq_nx (t21 D2), seq_nx (t22 c hl), seq_nx t23, seq_nx (t24 hn'), seq_nx (t25 g1 g2 (lk_pp ll)), show t + 1 + 1 = t + 2 by omega]
/-- great circles cut -/
theorem part4 {G : Nat} (hG : 1009 ^ 3 ≤ G) (hG2 : G < 2 ^ 130) (hx : xs.all D.isI = true) (h0 : 0 ≤ t) (h1 : t < 500) : ∃ e', sSeq (sAsgF 19 (mZ (m2 addD (mH (m2 mulD (mH (m2 fdivD (mH (mN (mVar 21))) (mH (mN (mC (.int 5)))))) (mH (mN (mC (.int 2)))))) (mH (mN (mC (.int 1))))))) (sSeq (sIf (mBool (m2 gtD (mH (mCall S_gcd (aCons (aD (mVar 19)) (aCons (aD (mVar 21)) aNil)))) (mH (mN (mC (.int 1)))))) (sRet (mN (mC (.bool true)))) sNext) (sSeq (sAsgF 25 (mZ (m2 addD (mH (mN (mC (.int 3000)))) (mH (mCall S_draw (aCons (aS 1) (aCons (aD (mC (.int 900))) aNil))))))) (sSeq (sAsgF 8 (mZ (mCall S_gaps (aCons (aD (mVar 19)) (aCons (aD (mVar 21)) (aCons (aD (mVar 25)) aNil)))))) (sSeq (sIf (mOr (mNot (mTru (mH (mN (mIs "tuple" (mH (mN (mVar 8)))))))) (mOr (mNot (mBool (mChain leD leD (mH (mN (mC (.int 1)))) (mH (mL lenD (aCons (mH (mN (mVar 8))) aNil))) (mH (mN (mC (.int 3))))))) (mBool (m2 neD (mH (mL sumD (aCons (mH (mComp (mSeqA (mVar 8)) (tgT [(tgN 28), (tgN 29)]) [28, 29] mYes m_law_d46cc9_e4)) aNil))) (mH (mN (mVar 25))))))) (sRet (mN (mC (.bool false)))) sNext) (sRet (mAndV (m2 eqD (mH (mL sumD (aCons (mH (mComp (mSeqA (mVar 8)) (tgT [(tgN 28), (tgN 29)]) [28, 29] mYes m_law_d46cc9_e5)) aNil))) (mH (mN (mVar 21)))) (mOrV (m2 ltD (mH (mL lenD (aCons (mH (mN (mVar 8))) aNil))) (mH (mN (mC (.int 3))))) (m2 eqD (mH (m2 ixD (mH (m2 ixD (mH (mN (mVar 8))) (mH (mN (mC (.int 2)))))) (mH (mN (mC (.int 0)))))) (mH (m2 addD (mH (m2 ixD (mH (m2 ixD (mH (mN (mVar 8))) (mH (mN (mC (.int 0)))))) (mH (mN (mC (.int 0)))))) (mH (m2 ixD (mH (m2 ixD (mH (mN (mVar 8))) (mH (mN (mC (.int 1)))))) (mH (mN (mC (.int 0)))))))))))))))) (eX r xs (t) c2 c3 c4 c5 c6 c7 c8 c9 c10 c11 c12 c13 c14 c15 c16 c17 c18 c19 c20 (some (.int (G : Int))) c22 c23 c24 c25 c26 c27 c28 c29) = .rt (.f (.bool true)) e' := by
  have G0 : 1009 ^ 3 ≤ (G : Int) := by exact_mod_cast hG
  have q1 := fdivD_i (i := (G : Int)) (divS (b := 5) (by decide) (by decide))
  have w1 := mulD_i (show DL.MulOk ((G : Int) / 5) (2 : Int) from mulOk_r' (by decide) (by decide))
  have s26 := t26 (r := r) (xs := xs) (t := t) (c2 := c2) (c3 := c3) (c4 := c4) (c5 := c5) (c6 := c6) (c7 := c7) (c8 := c8) (c9 := c9) (c10 := c10) (c11 := c11) (c12 := c12) (c13 := c13) (c14 := c14) (c15 := c15) (c16 := c16) (c17 := c17) (c18 := c18) (c19 := c19) (c20 := c20) (c22 := c22) (c23 := c23) (c24 := c24) (c25 := c25) (c26 := c26) (c27 := c27) (c28 := c28) (c29 := c29) q1 w1
  obtain ⟨a, ea⟩ : ∃ a : Nat, (G : Int) / 5 * 2 + 1 = (a : Int) := ⟨G / 5 * 2 + 1, by omega⟩
  have al : a < 2 ^ 130 := by omega
  rw [ea] at s26
  have hg := gcd_r (a := (a : Int)) (b := (G : Int)) (by omega) (by omega) (by omega)
  by_cases hc : 1 < (Int.gcd (a : Int) (G : Int) : Int)
  · exact ⟨_, (seq_nx s26).trans (t27y hg hc)⟩
  · have hgp : 0 < Nat.gcd a G := Nat.gcd_pos_of_pos_right a (by omega)
    have hco : Nat.gcd a G = 1 := by
      have : ((Nat.gcd a G : Nat) : Int) = (Int.gcd (a : Int) (G : Int) : Int) := rfl
      omega
    obtain ⟨d, D1, l1⟩ := drN hx (t := t) (m := 900) h0 (by omega) (by decide) (by decide)
    obtain ⟨p, q, u, v, h, hu, hv, hnn, hg2⟩ := gaps_r (a := a) (m := G) (n := 3000 + d) (by omega) (by omega) (by omega) (by omega) (far_great hco (by omega))
    have to := told_ok h hu hv hnn
    have bnd : ∀ x ∈ srtP (gps p q u v (3000 + d)), -100000 < x.2 ∧ x.2 < 100000 := fun x hx => by
      have hx := (srtP_perm _).mem_iff.mp hx
      unfold gps at hx
      rcases List.mem_append.mp hx with hx | hx
      · split at hx
        · rw [List.mem_singleton.mp hx]
          show -100000 < _ - _ + _ ∧ _ - _ + _ < 100000
          omega
        · rcases List.mem_cons.mp hx with rfl | hx
          · show -100000 < _ - _ ∧ _ - _ < 100000
            omega
          · rw [List.mem_singleton.mp hx]
            show -100000 < _ - _ ∧ _ - _ < 100000
            omega
      · split at hx
        · rw [List.mem_singleton.mp hx]
          show -100000 < _ + _ - _ ∧ _ + _ - _ < 100000
          omega
        · cases hx
    generalize srtP (gps p q u v (3000 + d)) = l at *
    rw [show ((3000 + d : Nat) : Int) = 3000 + (d : Int) from by omega] at hg2
    have e30 := t30c (r := r) (xs := xs) (t := t + 1) (c2 := c2) (c3 := c3) (c4 := c4) (c5 := c5) (c6 := c6) (c7 := c7) (c9 := c9) (c10 := c10) (c11 := c11) (c12 := c12) (c13 := c13) (c14 := c14) (c15 := c15) (c16 := c16) (c17 := c17) (c18 := c18) (c19 := some (.int (a : Int))) (c20 := c20) (c21 := some (.int (G : Int))) (c22 := c22) (c23 := c23) (c24 := c24) (c25 := some (.int (3000 + (d : Int)))) (c26 := c26) (c27 := c27) (c28 := c28) (c29 := c29) to.l3
    have e31 := t31c (r := r) (xs := xs) (t := t + 1) (c2 := c2) (c3 := c3) (c4 := c4) (c5 := c5) (c6 := c6) (c7 := c7) (c9 := c9) (c10 := c10) (c11 := c11) (c12 := c12) (c13 := c13) (c14 := c14) (c15 := c15) (c16 := c16) (c17 := c17) (c18 := c18) (c19 := some (.int (a : Int))) (c20 := c20) (c21 := some (.int (G : Int))) (c22 := c22) (c23 := c23) (c24 := c24) (c25 := some (.int (3000 + (d : Int)))) (c26 := c26) (c27 := c27) (c28 := c28) (c29 := c29) to.l3 bnd
    have su1 : sumD [.list ((l.map (·.2)).map .int)] = .ok (.f (.int (3000 + (d : Int)))) := by
      rw [sumD_l, to.num]
      congr 3
    have su2 : sumD [.list ((l.map fun x => x.1 * x.2).map .int)] = .ok (.f (.int (G : Int))) := by
      rw [sumD_l, to.whole]
    have s30 := t30 (e := (eX r xs (t + 1) c2 c3 c4 c5 c6 c7 (some (.tuple (l.map pDD))) c9 c10 c11 c12 c13 c14 c15 c16 c17 c18 (some (.int (a : Int))) c20 (some (.int (G : Int))) c22 c23 c24 (some (.int (3000 + (d : Int)))) c26 c27 c28 c29)) rfl rfl e30 su1 (by rw [List.length_map]; exact to.l1) (by rw [List.length_map]; exact to.l3)
    have fin : ∃ e', (sRet (mAndV (m2 eqD (mH (mL sumD (aCons (mH (mComp (mSeqA (mVar 8)) (tgT [(tgN 28), (tgN 29)]) [28, 29] mYes m_law_d46cc9_e5)) aNil))) (mH (mN (mVar 21)))) (mOrV (m2 ltD (mH (mL lenD (aCons (mH (mN (mVar 8))) aNil))) (mH (mN (mC (.int 3))))) (m2 eqD (mH (m2 ixD (mH (m2 ixD (mH (mN (mVar 8))) (mH (mN (mC (.int 2)))))) (mH (mN (mC (.int 0)))))) (mH (m2 addD (mH (m2 ixD (mH (m2 ixD (mH (mN (mVar 8))) (mH (mN (mC (.int 0)))))) (mH (mN (mC (.int 0)))))) (mH (m2 ixD (mH (m2 ixD (mH (mN (mVar 8))) (mH (mN (mC (.int 1)))))) (mH (mN (mC (.int 0)))))))))))) (eX r xs (t + 1) c2 c3 c4 c5 c6 c7 (some (.tuple (l.map pDD))) c9 c10 c11 c12 c13 c14 c15 c16 c17 c18 (some (.int (a : Int))) c20 (some (.int (G : Int))) c22 c23 c24 (some (.int (3000 + (d : Int)))) c26 c27 c28 c29) = .rt (.f (.bool true)) e' := by
      rcases to.third with z | ⟨x, y, w, rfl, hw⟩
      · exact ⟨_, t31s rfl rfl e31 su2 (by rw [List.length_map]; exact z)⟩
      · exact ⟨_, t31t rfl rfl e31 su2 hw⟩
    obtain ⟨e', fin⟩ := fin
    exact ⟨e', (seq_nx s26).trans ((seq_nx (t27n hg hc)).trans ((seq_nx (t28 D1)).trans ((seq_nx (t29 hg2)).trans ((seq_nx s30).trans fin))))⟩
end
noncomputable abbrev ML : En → Out := m_law_d46cc9 S_digits S_draw S_lratio S_lplus S_law_pick S_first_off (S_like 2) S_law_off S_number S_lminus S_lproduct S_less S_first_in S_gaps S_law_gaps S_gcd
theorem law_run (ns : List Int) : runD 30 ML [.f (.ro (ns.map .int))] = .ok (.f (.bool true), []) := by
  obtain ⟨ds, dl, hd⟩ := digits_r ns
  have hx := allI_ints ds
  obtain ⟨b0, hb, lb⟩ := drN hx (t := 0) (m := 30) (by decide) (by decide) (by decide) (by decide)
  have bb : (1 : Int) + (b0 : Int) = ((b0 + 1 : Nat) : Int) := by omega
  obtain ⟨a, ha, la⟩ := drN hx (t := 0 + 1) (m := b0 + 1 + 1) (by decide) (by decide) (by omega) (by omega)
  obtain ⟨c, hc, lc⟩ := drN hx (t := 0 + 1 + 1) (m := b0 + 1) (by decide) (by decide) (by omega) (by omega)
  have k1 := t1 (r := .ro (ns.map .int)) (c2 := none) (c3 := none) (c4 := none) (c5 := none) (c6 := none) (c7 := none) (c8 := none) (c9 := none) (c10 := none) (c11 := none) (c12 := none) (c13 := none) (c14 := none) (c15 := none) (c16 := none) (c17 := none) (c18 := none) (c19 := none) (c20 := none) (c21 := none) (c22 := none) (c23 := none) (c24 := none) (c25 := none) (c26 := none) (c27 := none) (c28 := none) (c29 := none) hb
  rw [bb] at k1
  have ha' : S_draw [.l true [.list (ds.map .int), .int (0 + 1)], .f (.int (((b0 + 1 : Nat) : Int) + 1))] = .ok (.f (.int (a : Int)), [.l true [.list (ds.map .int), .int (0 + 1 + 1)]]) := ha
  have k2 := t2 (r := .ro (ns.map .int)) (c3 := none) (c4 := none) (c5 := none) (c6 := none) (c7 := none) (c8 := none) (c9 := none) (c10 := none) (c11 := none) (c12 := none) (c13 := none) (c14 := none) (c15 := none) (c16 := none) (c17 := none) (c18 := none) (c19 := none) (c20 := none) (c21 := none) (c22 := none) (c23 := none) (c24 := none) (c25 := none) (c26 := none) (c27 := none) (c28 := none) (c29 := none) ha' hc
  obtain ⟨x5, x6, x7, x8, x9, k3⟩ := turns (r := .ro (ns.map .int)) (t := 0 + 1 + 1 + 1) (a := a) (b := b0 + 1) (c := c) (c5 := none) (c6 := none) (c7 := none) (c8 := none) (c9 := none) (c10 := none) (c11 := none) (c12 := none) (c13 := none) (c14 := none) (c15 := none) (c16 := none) (c17 := none) (c18 := none) (c19 := none) (c20 := none) (c21 := none) (c22 := none) (c23 := none) (c24 := none) (c25 := none) (c26 := none) (c27 := none) (c28 := none) (c29 := none) hx (by omega) (by omega) (by omega) lc (by decide) (by decide)
  obtain ⟨d, hdd, ld⟩ := drN hx (t := 0 + 1 + 1 + 1 + 5 + 5 + 5) (m := 900) (by decide) (by decide) (by decide) (by decide)
  obtain ⟨a', b', L⟩ := lo_ex (a := a) (b := b0 + 1) (by omega)
  have kr := lratio_r (a := (a : Int)) (b := ((b0 + 1 : Nat) : Int)) (by omega) (by omega)
  rw [L.e] at kr
  change S_lratio _ = .ok (.f (.tuple [.int (a' : Int), .int (b' : Int)]), []) at kr
  obtain ⟨p, q, S⟩ := sky_ex L 1 (y := 10) (by decide)
  obtain ⟨s1, s2, s3⟩ := S.sizes (by omega) (by omega) ⟨by decide, by decide⟩ (by decide)
  have kp := lplus_sky S (by omega) (by omega) (by decide) (by decide) ⟨by decide, by decide⟩
  have k4 := t4 (r := .ro (ns.map .int)) (c4 := some (.int (c : Int))) (c5 := x5) (c6 := x6) (c7 := x7) (c8 := x8) (c9 := x9) (c10 := none) (c11 := none) (c12 := none) (c13 := none) (c14 := none) (c15 := none) (c16 := none) (c17 := none) (c18 := none) (c19 := none) (c20 := none) (c21 := none) (c22 := none) (c23 := none) (c24 := none) (c25 := none) (c26 := none) (c27 := none) (c28 := none) (c29 := none) kr kp hdd
  have F : FO a (b0 + 1) c p q (1000 + d) 1 := ⟨by omega, by omega, by omega, by omega, s1, s2, S.q0, s3, by omega, by omega, by omega⟩
  rw [show (1000 : Int) + (d : Int) = ((1000 + d : Nat) : Int) from by omega] at k4
  change _ = Out.nx (eX _ _ _ _ _ _ _ _ _ _ _ _ (some (qP ((1000 + d : Nat) : Int) 1)) _ _ _ _ _ _ _ _ _ _ _ _ _ _ _ _ _ _) at k4
  obtain ⟨o, f1, f2⟩ := first_off_r F
  cases o with
  | none => exact (rise_ne (by omega) (fun z => by have := S.rise0.mp z; omega) f2).elim
  | some late =>
    have ll : late ≤ 10 * (1000 + d + 2) := by
      rcases Nat.lt_or_ge (10 * (1000 + d + 2)) late with z | z
      · exact (f2.2 _ z (late_le S lc (Nat.le_refl _))).elim
      · exact z
    have k5 := t5 (r := .ro (ns.map .int)) (xs := ds.map .int) (t := 0 + 1 + 1 + 1 + 5 + 5 + 5 + 1) (c5 := x5) (c6 := x6) (c7 := x7) (c8 := x8) (c9 := x9) (c12 := none) (c13 := none) (c14 := none) (c15 := none) (c16 := none) (c17 := none) (c18 := none) (c19 := none) (c20 := none) (c21 := none) (c22 := none) (c23 := none) (c24 := none) (c25 := none) (c26 := none) (c27 := none) (c28 := none) (c29 := none) f1
    have hN : S_number [.f (.int (late : Int)), .f (.int 0), .f (.int 1000000000)] = .ok (.f (.bool true), []) := by
      have : (decide ((0 : Int) ≤ late) && decide ((late : Int) ≤ 1000000000)) = true := by
        rw [decide_eq_true (by omega), decide_eq_true (by omega)]
        rfl
      show Rs.ok (Ce.f (.bool (decide ((0 : Int) ≤ late) && decide ((late : Int) ≤ 1000000000))), []) = _
      rw [this]
    have k6 := t6 (r := .ro (ns.map .int)) (xs := ds.map .int) (t := 0 + 1 + 1 + 1 + 5 + 5 + 5 + 1) (c2 := some (.int ((b0 + 1 : Nat) : Int))) (c3 := some (.int (a : Int))) (c4 := some (.int (c : Int))) (c5 := x5) (c6 := x6) (c7 := x7) (c8 := x8) (c9 := x9) (c10 := some (qP p q)) (c11 := some (qP ((1000 + d : Nat) : Int) 1)) (c13 := none) (c14 := none) (c15 := none) (c16 := none) (c17 := none) (c18 := none) (c19 := none) (c20 := none) (c21 := none) (c22 := none) (c23 := none) (c24 := none) (c25 := none) (c26 := none) (c27 := none) (c28 := none) (c29 := none) hN
    obtain ⟨x13, x14, x15, k7⟩ := lates (r := .ro (ns.map .int)) (xs := ds.map .int) (t := 0 + 1 + 1 + 1 + 5 + 5 + 5 + 1) (c5 := x5) (c6 := x6) (c7 := x7) (c8 := x8) (c9 := x9) (c13 := none) (c14 := none) (c15 := none) (c16 := none) (c17 := none) (c18 := none) (c19 := none) (c20 := none) (c21 := none) (c22 := none) (c23 := none) (c24 := none) (c25 := none) (c26 := none) (c27 := none) (c28 := none) (c29 := none) F f2 (by omega)
    obtain ⟨m, y13, y17, y18, y19, y20, m2, m201, k8⟩ := part1 (r := .ro (ns.map .int)) (xs := ds.map .int) (t := 0 + 1 + 1 + 1 + 5 + 5 + 5 + 1) (c2 := some (.int ((b0 + 1 : Nat) : Int))) (c3 := some (.int (a : Int))) (c4 := some (.int (c : Int))) (c5 := x5) (c6 := x6) (c7 := x7) (c8 := x8) (c9 := x9) (c10 := some (qP p q)) (c11 := some (qP ((1000 + d : Nat) : Int) 1)) (c12 := some (.int (late : Int))) (c13 := x13) (c14 := x14) (c15 := x15) (c16 := none) (c17 := none) (c18 := none) (c19 := none) (c20 := none) (c21 := none) (c22 := none) (c23 := none) (c24 := none) (c25 := none) (c26 := none) (c27 := none) (c28 := none) (c29 := none) hx (by decide) (by decide)
    obtain ⟨G, t', z13, z19, z22, z23, z24, tl, th, G1, G2, k9⟩ := part2 (r := .ro (ns.map .int)) (xs := ds.map .int) (t := 0 + 1 + 1 + 1 + 5 + 5 + 5 + 1 + 4) (c2 := some (.int ((b0 + 1 : Nat) : Int))) (c3 := some (.int (a : Int))) (c4 := some (.int (c : Int))) (c5 := x5) (c6 := x6) (c7 := x7) (c8 := x8) (c9 := x9) (c10 := some (qP p q)) (c11 := some (qP ((1000 + d : Nat) : Int) 1)) (c12 := some (.int (late : Int))) (c13 := x13) (c14 := x14) (c15 := x15) (c16 := some (.int (m : Int))) (c17 := y17) (c18 := y18) (c19 := y19) (c20 := y20) (c21 := none) (c22 := none) (c23 := none) (c24 := none) (c25 := none) (c26 := none) (c27 := none) (c28 := none) (c29 := none) hx (by decide) (by decide)
    obtain ⟨w19, w25, w26, w27, k10⟩ := part3 (r := .ro (ns.map .int)) (xs := ds.map .int) (t := t') (c2 := some (.int ((b0 + 1 : Nat) : Int))) (c3 := some (.int (a : Int))) (c4 := some (.int (c : Int))) (c5 := x5) (c6 := x6) (c7 := x7) (c8 := x8) (c9 := x9) (c10 := some (qP p q)) (c11 := some (qP ((1000 + d : Nat) : Int) 1)) (c12 := some (.int (late : Int))) (c13 := z13) (c14 := x14) (c15 := x15) (c17 := y17) (c18 := y18) (c19 := z19) (c20 := y20) (c21 := some (.int (G : Int))) (c22 := z22) (c23 := z23) (c24 := z24) (c25 := none) (c26 := none) (c27 := none) (c28 := none) (c29 := none) m2 m201 hx (by omega) (by omega)
    obtain ⟨e', k11⟩ := part4 (r := .ro (ns.map .int)) (xs := ds.map .int) (t := t' + 2) (c2 := some (.int ((b0 + 1 : Nat) : Int))) (c3 := some (.int (a : Int))) (c4 := some (.int (c : Int))) (c5 := x5) (c6 := x6) (c7 := x7) (c8 := x8) (c9 := x9) (c10 := some (qP p q)) (c11 := some (qP ((1000 + d : Nat) : Int) 1)) (c12 := some (.int (late : Int))) (c13 := z13) (c14 := x14) (c15 := x15) (c16 := some (.int (m : Int))) (c17 := y17) (c18 := y18) (c19 := w19) (c20 := y20) (c22 := z22) (c23 := z23) (c24 := z24) (c25 := w25) (c26 := w26) (c27 := w27) (c28 := none) (c29 := none) G1 G2 hx (by omega) (by omega)
    refine run_rt (e := [some (.f (.ro (ns.map .int))), none, none, none, none, none, none, none, none, none, none, none, none, none, none, none, none, none, none, none, none, none, none, none, none, none, none, none, none, none]) rfl ?_ rfl (e' := e')
    unfold ML m_law_d46cc9
    exact (seq_nx (t0 hd)).trans ((seq_nx k1).trans ((seq_nx k2).trans ((seq_nx k3).trans ((seq_nx k4).trans ((seq_nx k5).trans ((seq_nx k6).trans ((seq_nx k7).trans (k8.trans (k9.trans (k10.trans k11))))))))))
end Lk23


namespace Lk23
open PySem L2 DL PyProof.Rows Md Sh
theorem all_mk {l : PySem.W.OpenLaw} {w : World} {K : PySem.W.Frag} {h : Heap} {mg : Str → Option Value} {fa f0 f1 f2 f3 f4 f5 f6 f7 f8 f9 f10 f11 f12 f13 f14 f15 f16 f17 f18 : Addr} (X : K.In h) (G : h.Ns mainGlobals mg) (hfa : mg "law" = some (.ref fa))
    {od0 an0 od1 an1 od2 an2 od3 an3 od4 an4 od5 an5 od6 an6 od7 an7 od8 an8 od9 an9 od10 an10 od11 an11 od12 an12 od13 an13 od14 an14 od15 an15 od16 an16 od17 an17 od18 an18 : Option Addr} {sl0 sl1 sl2 sl3 sl4 sl5 sl6 sl7 sl8 sl9 sl10 sl11 sl12 sl13 sl14 sl15 sl16 sl17 sl18 : Array (Option Value)} {oc0 kV0 dc0 pm0 cd0 ct0 oc1 kV1 dc1 pm1 cd1 ct1 oc2 kV2 dc2 pm2 cd2 ct2 oc3 kV3 dc3 pm3 cd3 ct3 oc4 kV4 dc4 pm4 cd4 ct4 oc5 kV5 dc5 pm5 cd5 ct5 oc6 kV6 dc6 pm6 cd6 ct6 oc7 kV7 dc7 pm7 cd7 ct7 oc8 kV8 dc8 pm8 cd8 ct8 oc9 kV9 dc9 pm9 cd9 ct9 oc10 kV10 dc10 pm10 cd10 ct10 oc11 kV11 dc11 pm11 cd11 ct11 oc12 kV12 dc12 pm12 cd12 ct12 oc13 kV13 dc13 pm13 cd13 ct13 oc14 kV14 dc14 pm14 cd14 ct14 oc15 kV15 dc15 pm15 cd15 ct15 oc16 kV16 dc16 pm16 cd16 ct16 oc17 kV17 dc17 pm17 cd17 ct17 oc18 kV18 dc18 pm18 cd18 ct18 : Value}
    (a0 : PySem.W.nsIn K mainGlobals "_law_cell" = some (some (.ref f0))) (l0 : K.lookup f0 = some ⟨oc0, od0, .func (PySem.W.fnOf "_law_cell" "_law_cell" (defArgs s_law_cell) (defBody s_law_cell) (defScope s_law_cell) .none kV0 dc0 pm0 an0 cd0 ct0), sl0⟩) (c0 : PySem.W.codeIn K cd0 "_law_cell" = true) (k0 : PySem.W.keepIn K (.ref f0) = true)
    (a1 : PySem.W.nsIn K mainGlobals "_law_digits" = some (some (.ref f1))) (l1 : K.lookup f1 = some ⟨oc1, od1, .func (PySem.W.fnOf "_law_digits" "_law_digits" (defArgs s_law_digits) (defBody s_law_digits) (defScope s_law_digits) .none kV1 dc1 pm1 an1 cd1 ct1), sl1⟩) (c1 : PySem.W.codeIn K cd1 "_law_digits" = true) (k1 : PySem.W.keepIn K (.ref f1) = true)
    (a2 : PySem.W.nsIn K mainGlobals "_law_draw" = some (some (.ref f2))) (l2 : K.lookup f2 = some ⟨oc2, od2, .func (PySem.W.fnOf "_law_draw" "_law_draw" (defArgs s_law_draw) (defBody s_law_draw) (defScope s_law_draw) .none kV2 dc2 pm2 an2 cd2 ct2), sl2⟩) (c2 : PySem.W.codeIn K cd2 "_law_draw" = true) (k2 : PySem.W.keepIn K (.ref f2) = true)
    (a3 : PySem.W.nsIn K mainGlobals "_law_gcd" = some (some (.ref f3))) (l3 : K.lookup f3 = some ⟨oc3, od3, .func (PySem.W.fnOf "_law_gcd" "_law_gcd" (defArgs s_law_gcd) (defBody s_law_gcd) (defScope s_law_gcd) .none kV3 dc3 pm3 an3 cd3 ct3), sl3⟩) (c3 : PySem.W.codeIn K cd3 "_law_gcd" = true) (k3 : PySem.W.keepIn K (.ref f3) = true)
    (a4 : PySem.W.nsIn K mainGlobals "_law_ratio" = some (some (.ref f4))) (l4 : K.lookup f4 = some ⟨oc4, od4, .func (PySem.W.fnOf "_law_ratio" "_law_ratio" (defArgs s_law_ratio) (defBody s_law_ratio) (defScope s_law_ratio) .none kV4 dc4 pm4 an4 cd4 ct4), sl4⟩) (c4 : PySem.W.codeIn K cd4 "_law_ratio" = true) (k4 : PySem.W.keepIn K (.ref f4) = true)
    (a5 : PySem.W.nsIn K mainGlobals "_law_plus" = some (some (.ref f5))) (l5 : K.lookup f5 = some ⟨oc5, od5, .func (PySem.W.fnOf "_law_plus" "_law_plus" (defArgs s_law_plus) (defBody s_law_plus) (defScope s_law_plus) .none kV5 dc5 pm5 an5 cd5 ct5), sl5⟩) (c5 : PySem.W.codeIn K cd5 "_law_plus" = true) (k5 : PySem.W.keepIn K (.ref f5) = true)
    (a6 : PySem.W.nsIn K mainGlobals "_law_pick" = some (some (.ref f6))) (l6 : K.lookup f6 = some ⟨oc6, od6, .func (PySem.W.fnOf "_law_pick" "_law_pick" (defArgs s_law_pick) (defBody s_law_pick) (defScope s_law_pick) .none kV6 dc6 pm6 an6 cd6 ct6), sl6⟩) (c6 : PySem.W.codeIn K cd6 "_law_pick" = true) (k6 : PySem.W.keepIn K (.ref f6) = true)
    (a7 : PySem.W.nsIn K mainGlobals "count" = some (some (.ref f7))) (l7 : K.lookup f7 = some ⟨oc7, od7, .func (PySem.W.fnOf "count" "count" (defArgs s_count) (defBody s_count) (defScope s_count) .none kV7 dc7 pm7 an7 cd7 ct7), sl7⟩) (c7 : PySem.W.codeIn K cd7 "count" = true) (k7 : PySem.W.keepIn K (.ref f7) = true)
    (a8 : PySem.W.nsIn K mainGlobals "first_off" = some (some (.ref f8))) (l8 : K.lookup f8 = some ⟨oc8, od8, .func (PySem.W.fnOf "first_off" "first_off" (defArgs s_first_off) (defBody s_first_off) (defScope s_first_off) .none kV8 dc8 pm8 an8 cd8 ct8), sl8⟩) (c8 : PySem.W.codeIn K cd8 "first_off" = true) (k8 : PySem.W.keepIn K (.ref f8) = true)
    (a9 : PySem.W.nsIn K mainGlobals "_law_like" = some (some (.ref f9))) (l9 : K.lookup f9 = some ⟨oc9, od9, .func (PySem.W.fnOf "_law_like" "_law_like" (defArgs s_law_like) (defBody s_law_like) (defScope s_law_like) .none kV9 dc9 pm9 an9 cd9 ct9), sl9⟩) (c9 : PySem.W.codeIn K cd9 "_law_like" = true) (k9 : PySem.W.keepIn K (.ref f9) = true)
    (a10 : PySem.W.nsIn K mainGlobals "_law_minus" = some (some (.ref f10))) (l10 : K.lookup f10 = some ⟨oc10, od10, .func (PySem.W.fnOf "_law_minus" "_law_minus" (defArgs s_law_minus) (defBody s_law_minus) (defScope s_law_minus) .none kV10 dc10 pm10 an10 cd10 ct10), sl10⟩) (c10 : PySem.W.codeIn K cd10 "_law_minus" = true) (k10 : PySem.W.keepIn K (.ref f10) = true)
    (a11 : PySem.W.nsIn K mainGlobals "_law_product" = some (some (.ref f11))) (l11 : K.lookup f11 = some ⟨oc11, od11, .func (PySem.W.fnOf "_law_product" "_law_product" (defArgs s_law_product) (defBody s_law_product) (defScope s_law_product) .none kV11 dc11 pm11 an11 cd11 ct11), sl11⟩) (c11 : PySem.W.codeIn K cd11 "_law_product" = true) (k11 : PySem.W.keepIn K (.ref f11) = true)
    (a12 : PySem.W.nsIn K mainGlobals "_law_less" = some (some (.ref f12))) (l12 : K.lookup f12 = some ⟨oc12, od12, .func (PySem.W.fnOf "_law_less" "_law_less" (defArgs s_law_less) (defBody s_law_less) (defScope s_law_less) .none kV12 dc12 pm12 an12 cd12 ct12), sl12⟩) (c12 : PySem.W.codeIn K cd12 "_law_less" = true) (k12 : PySem.W.keepIn K (.ref f12) = true)
    (a13 : PySem.W.nsIn K mainGlobals "_law_off" = some (some (.ref f13))) (l13 : K.lookup f13 = some ⟨oc13, od13, .func (PySem.W.fnOf "_law_off" "_law_off" (defArgs s_law_off) (defBody s_law_off) (defScope s_law_off) .none kV13 dc13 pm13 an13 cd13 ct13), sl13⟩) (c13 : PySem.W.codeIn K cd13 "_law_off" = true) (k13 : PySem.W.keepIn K (.ref f13) = true)
    (a14 : PySem.W.nsIn K mainGlobals "_law_number" = some (some (.ref f14))) (l14 : K.lookup f14 = some ⟨oc14, od14, .func (PySem.W.fnOf "_law_number" "_law_number" (defArgs s_law_number) (defBody s_law_number) (defScope s_law_number) .none kV14 dc14 pm14 an14 cd14 ct14), sl14⟩) (c14 : PySem.W.codeIn K cd14 "_law_number" = true) (k14 : PySem.W.keepIn K (.ref f14) = true)
    (a15 : PySem.W.nsIn K mainGlobals "first_in" = some (some (.ref f15))) (l15 : K.lookup f15 = some ⟨oc15, od15, .func (PySem.W.fnOf "first_in" "first_in" (defArgs s_first_in) (defBody s_first_in) (defScope s_first_in) .none kV15 dc15 pm15 an15 cd15 ct15), sl15⟩) (c15 : PySem.W.codeIn K cd15 "first_in" = true) (k15 : PySem.W.keepIn K (.ref f15) = true)
    (a16 : PySem.W.nsIn K mainGlobals "gaps" = some (some (.ref f16))) (l16 : K.lookup f16 = some ⟨oc16, od16, .func (PySem.W.fnOf "gaps" "gaps" (defArgs s_gaps) (defBody s_gaps) (defScope s_gaps) .none kV16 dc16 pm16 an16 cd16 ct16), sl16⟩) (c16 : PySem.W.codeIn K cd16 "gaps" = true) (k16 : PySem.W.keepIn K (.ref f16) = true)
    (a17 : PySem.W.nsIn K mainGlobals "_law_gaps" = some (some (.ref f17))) (l17 : K.lookup f17 = some ⟨oc17, od17, .func (PySem.W.fnOf "_law_gaps" "_law_gaps" (defArgs s_law_gaps) (defBody s_law_gaps) (defScope s_law_gaps) .none kV17 dc17 pm17 an17 cd17 ct17), sl17⟩) (c17 : PySem.W.codeIn K cd17 "_law_gaps" = true) (k17 : PySem.W.keepIn K (.ref f17) = true)
    (a18 : PySem.W.nsIn K mainGlobals "law" = some (some (.ref f18))) (l18 : K.lookup f18 = some ⟨oc18, od18, .func (PySem.W.fnOf "law" "law" (defArgs s_law) (defBody s_law) (defScope s_law) .none kV18 dc18 pm18 an18 cd18 ct18), sl18⟩) (c18 : PySem.W.codeIn K cd18 "law" = true) (k18 : PySem.W.keepIn K (.ref f18) = true)
    (z0 : PySem.W.nsIn K mainGlobals "abs" = some none)
    (z1 : PySem.W.nsIn K mainGlobals "bool" = some none)
    (z2 : PySem.W.nsIn K mainGlobals "enumerate" = some none)
    (z3 : PySem.W.nsIn K mainGlobals "gcd" = some (some (.builtin "math.gcd")))
    (z4 : PySem.W.nsIn K mainGlobals "int" = some none)
    (z5 : PySem.W.nsIn K mainGlobals "isinstance" = some none)
    (z6 : PySem.W.nsIn K mainGlobals "len" = some none)
    (z7 : PySem.W.nsIn K mainGlobals "min" = some none)
    (z8 : PySem.W.nsIn K mainGlobals "range" = some none)
    (z9 : PySem.W.nsIn K mainGlobals "reversed" = some none)
    (z10 : PySem.W.nsIn K mainGlobals "set" = some none)
    (z11 : PySem.W.nsIn K mainGlobals "sorted" = some none)
    (z12 : PySem.W.nsIn K mainGlobals "str" = some none)
    (z13 : PySem.W.nsIn K mainGlobals "sum" = some none)
    (z14 : PySem.W.nsIn K mainGlobals "tuple" = some none) :
    ∃ fd : FuncData, (∀ (s : Shared) (v : Value), BindsTo s fd ⟨[v], []⟩ [("script", v)]) ∧ ∀ base : Heap, K.In base → base.Ns mainGlobals mg → FnOk l.prog w K mg base CX0 5 fa fd ["script"] (spD K (lawS 63)) := by
  have e := hfa.symm.trans (PySem.W.mg_of X G a18)
  cases e
  have A0 : At1 K mg "_law_cell" s_law_cell p_law_cell f0 (PySem.W.fnOf "_law_cell" "_law_cell" (defArgs s_law_cell) (defBody s_law_cell) (defScope s_law_cell) .none kV0 dc0 pm0 an0 cd0 ct0) := ⟨fun_mk (st := s_law_cell) l0 c0 k0, PySem.W.mg_of X G a0, (fun_mk (st := s_law_cell) l0 c0 k0).binds (ps := p_law_cell) fun _ _ _ _ _ _ us hl => match us, hl with | [_, _], _ => rfl⟩
  have A1 : At1 K mg "_law_digits" s_law_digits p_law_digits f1 (PySem.W.fnOf "_law_digits" "_law_digits" (defArgs s_law_digits) (defBody s_law_digits) (defScope s_law_digits) .none kV1 dc1 pm1 an1 cd1 ct1) := ⟨fun_mk (st := s_law_digits) l1 c1 k1, PySem.W.mg_of X G a1, (fun_mk (st := s_law_digits) l1 c1 k1).binds (ps := p_law_digits) fun _ _ _ _ _ _ us hl => match us, hl with | [_, _, _], _ => rfl⟩
  have A2 : At1 K mg "_law_draw" s_law_draw p_law_draw f2 (PySem.W.fnOf "_law_draw" "_law_draw" (defArgs s_law_draw) (defBody s_law_draw) (defScope s_law_draw) .none kV2 dc2 pm2 an2 cd2 ct2) := ⟨fun_mk (st := s_law_draw) l2 c2 k2, PySem.W.mg_of X G a2, (fun_mk (st := s_law_draw) l2 c2 k2).binds (ps := p_law_draw) fun _ _ _ _ _ _ us hl => match us, hl with | [_, _], _ => rfl⟩
  have A3 : At1 K mg "_law_gcd" s_law_gcd p_law_gcd f3 (PySem.W.fnOf "_law_gcd" "_law_gcd" (defArgs s_law_gcd) (defBody s_law_gcd) (defScope s_law_gcd) .none kV3 dc3 pm3 an3 cd3 ct3) := ⟨fun_mk (st := s_law_gcd) l3 c3 k3, PySem.W.mg_of X G a3, (fun_mk (st := s_law_gcd) l3 c3 k3).binds (ps := p_law_gcd) fun _ _ _ _ _ _ us hl => match us, hl with | [_, _], _ => rfl⟩
  have A4 : At1 K mg "_law_ratio" s_law_ratio p_law_ratio f4 (PySem.W.fnOf "_law_ratio" "_law_ratio" (defArgs s_law_ratio) (defBody s_law_ratio) (defScope s_law_ratio) .none kV4 dc4 pm4 an4 cd4 ct4) := ⟨fun_mk (st := s_law_ratio) l4 c4 k4, PySem.W.mg_of X G a4, (fun_mk (st := s_law_ratio) l4 c4 k4).binds (ps := p_law_ratio) fun _ _ _ _ _ _ us hl => match us, hl with | [_, _], _ => rfl⟩
  have A5 : At1 K mg "_law_plus" s_law_plus p_law_plus f5 (PySem.W.fnOf "_law_plus" "_law_plus" (defArgs s_law_plus) (defBody s_law_plus) (defScope s_law_plus) .none kV5 dc5 pm5 an5 cd5 ct5) := ⟨fun_mk (st := s_law_plus) l5 c5 k5, PySem.W.mg_of X G a5, (fun_mk (st := s_law_plus) l5 c5 k5).binds (ps := p_law_plus) fun _ _ _ _ _ _ us hl => match us, hl with | [_, _], _ => rfl⟩
  have A6 : At1 K mg "_law_pick" s_law_pick p_law_pick f6 (PySem.W.fnOf "_law_pick" "_law_pick" (defArgs s_law_pick) (defBody s_law_pick) (defScope s_law_pick) .none kV6 dc6 pm6 an6 cd6 ct6) := ⟨fun_mk (st := s_law_pick) l6 c6 k6, PySem.W.mg_of X G a6, (fun_mk (st := s_law_pick) l6 c6 k6).binds (ps := p_law_pick) fun _ _ _ _ _ _ us hl => match us, hl with | [_, _], _ => rfl⟩
  have A7 : At1 K mg "count" s_count p_count f7 (PySem.W.fnOf "count" "count" (defArgs s_count) (defBody s_count) (defScope s_count) .none kV7 dc7 pm7 an7 cd7 ct7) := ⟨fun_mk (st := s_count) l7 c7 k7, PySem.W.mg_of X G a7, (fun_mk (st := s_count) l7 c7 k7).binds (ps := p_count) fun _ _ _ _ _ _ us hl => match us, hl with | [_, _, _, _], _ => rfl⟩
  have A8 : At1 K mg "first_off" s_first_off p_first_off f8 (PySem.W.fnOf "first_off" "first_off" (defArgs s_first_off) (defBody s_first_off) (defScope s_first_off) .none kV8 dc8 pm8 an8 cd8 ct8) := ⟨fun_mk (st := s_first_off) l8 c8 k8, PySem.W.mg_of X G a8, (fun_mk (st := s_first_off) l8 c8 k8).binds (ps := p_first_off) fun _ _ _ _ _ _ us hl => match us, hl with | [_, _, _, _, _], _ => rfl⟩
  have A9 : At1 K mg "_law_like" s_law_like p_law_like f9 (PySem.W.fnOf "_law_like" "_law_like" (defArgs s_law_like) (defBody s_law_like) (defScope s_law_like) .none kV9 dc9 pm9 an9 cd9 ct9) := ⟨fun_mk (st := s_law_like) l9 c9 k9, PySem.W.mg_of X G a9, (fun_mk (st := s_law_like) l9 c9 k9).binds (ps := p_law_like) fun _ _ _ _ _ _ us hl => match us, hl with | [_, _], _ => rfl⟩
  have A10 : At1 K mg "_law_minus" s_law_minus p_law_minus f10 (PySem.W.fnOf "_law_minus" "_law_minus" (defArgs s_law_minus) (defBody s_law_minus) (defScope s_law_minus) .none kV10 dc10 pm10 an10 cd10 ct10) := ⟨fun_mk (st := s_law_minus) l10 c10 k10, PySem.W.mg_of X G a10, (fun_mk (st := s_law_minus) l10 c10 k10).binds (ps := p_law_minus) fun _ _ _ _ _ _ us hl => match us, hl with | [_, _], _ => rfl⟩
  have A11 : At1 K mg "_law_product" s_law_product p_law_product f11 (PySem.W.fnOf "_law_product" "_law_product" (defArgs s_law_product) (defBody s_law_product) (defScope s_law_product) .none kV11 dc11 pm11 an11 cd11 ct11) := ⟨fun_mk (st := s_law_product) l11 c11 k11, PySem.W.mg_of X G a11, (fun_mk (st := s_law_product) l11 c11 k11).binds (ps := p_law_product) fun _ _ _ _ _ _ us hl => match us, hl with | [_, _], _ => rfl⟩
  have A12 : At1 K mg "_law_less" s_law_less p_law_less f12 (PySem.W.fnOf "_law_less" "_law_less" (defArgs s_law_less) (defBody s_law_less) (defScope s_law_less) .none kV12 dc12 pm12 an12 cd12 ct12) := ⟨fun_mk (st := s_law_less) l12 c12 k12, PySem.W.mg_of X G a12, (fun_mk (st := s_law_less) l12 c12 k12).binds (ps := p_law_less) fun _ _ _ _ _ _ us hl => match us, hl with | [_, _], _ => rfl⟩
  have A13 : At1 K mg "_law_off" s_law_off p_law_off f13 (PySem.W.fnOf "_law_off" "_law_off" (defArgs s_law_off) (defBody s_law_off) (defScope s_law_off) .none kV13 dc13 pm13 an13 cd13 ct13) := ⟨fun_mk (st := s_law_off) l13 c13 k13, PySem.W.mg_of X G a13, (fun_mk (st := s_law_off) l13 c13 k13).binds (ps := p_law_off) fun _ _ _ _ _ _ us hl => match us, hl with | [_, _, _, _, _, _], _ => rfl⟩
  have A14 : At1 K mg "_law_number" s_law_number p_law_number f14 (PySem.W.fnOf "_law_number" "_law_number" (defArgs s_law_number) (defBody s_law_number) (defScope s_law_number) .none kV14 dc14 pm14 an14 cd14 ct14) := ⟨fun_mk (st := s_law_number) l14 c14 k14, PySem.W.mg_of X G a14, (fun_mk (st := s_law_number) l14 c14 k14).binds (ps := p_law_number) fun _ _ _ _ _ _ us hl => match us, hl with | [_, _, _], _ => rfl⟩
  have A15 : At1 K mg "first_in" s_first_in p_first_in f15 (PySem.W.fnOf "first_in" "first_in" (defArgs s_first_in) (defBody s_first_in) (defScope s_first_in) .none kV15 dc15 pm15 an15 cd15 ct15) := ⟨fun_mk (st := s_first_in) l15 c15 k15, PySem.W.mg_of X G a15, (fun_mk (st := s_first_in) l15 c15 k15).binds (ps := p_first_in) fun _ _ _ _ _ _ us hl => match us, hl with | [_, _, _, _], _ => rfl⟩
  have A16 : At1 K mg "gaps" s_gaps p_gaps f16 (PySem.W.fnOf "gaps" "gaps" (defArgs s_gaps) (defBody s_gaps) (defScope s_gaps) .none kV16 dc16 pm16 an16 cd16 ct16) := ⟨fun_mk (st := s_gaps) l16 c16 k16, PySem.W.mg_of X G a16, (fun_mk (st := s_gaps) l16 c16 k16).binds (ps := p_gaps) fun _ _ _ _ _ _ us hl => match us, hl with | [_, _, _], _ => rfl⟩
  have A17 : At1 K mg "_law_gaps" s_law_gaps p_law_gaps f17 (PySem.W.fnOf "_law_gaps" "_law_gaps" (defArgs s_law_gaps) (defBody s_law_gaps) (defScope s_law_gaps) .none kV17 dc17 pm17 an17 cd17 ct17) := ⟨fun_mk (st := s_law_gaps) l17 c17 k17, PySem.W.mg_of X G a17, (fun_mk (st := s_law_gaps) l17 c17 k17).binds (ps := p_law_gaps) fun _ _ _ _ _ _ us hl => match us, hl with | [_, _, _], _ => rfl⟩
  have A18 : At1 K mg "law" s_law p_law fa (PySem.W.fnOf "law" "law" (defArgs s_law) (defBody s_law) (defScope s_law) .none kV18 dc18 pm18 an18 cd18 ct18) := ⟨fun_mk (st := s_law) l18 c18 k18, PySem.W.mg_of X G a18, (fun_mk (st := s_law) l18 c18 k18).binds (ps := p_law) fun _ _ _ _ _ _ us hl => match us, hl with | [_], _ => rfl⟩
  have T : Txt mg := ⟨PySem.W.mg_none_of X G z0, PySem.W.mg_none_of X G z1, PySem.W.mg_none_of X G z2, PySem.W.mg_of X G z3, PySem.W.mg_none_of X G z4, PySem.W.mg_none_of X G z5, PySem.W.mg_none_of X G z6, PySem.W.mg_none_of X G z7, PySem.W.mg_none_of X G z8, PySem.W.mg_none_of X G z9, PySem.W.mg_none_of X G z10, PySem.W.mg_none_of X G z11, PySem.W.mg_none_of X G z12, PySem.W.mg_none_of X G z13, PySem.W.mg_none_of X G z14⟩
  refine ⟨PySem.W.fnOf "law" "law" (defArgs s_law) (defBody s_law) (defScope s_law) .none kV18 dc18 pm18 an18 cd18 ct18, fun s v => .of_eq rfl, fun base _ _ => ?_⟩
  have d0 : DFn l.prog w K mg base "_law_cell" 1 S_cell := der_law_cell A0 T  (k := 0)  sem_cell
  have d1 : DFn l.prog w K mg base "_law_digits" 2 S_digits := der_law_digits A1 T d0 (k := 1) (by decide) sem_digits
  have d2 : DFn l.prog w K mg base "_law_draw" 1 S_draw := der_law_draw A2 T  (k := 0)  sem_draw
  have d3 : DFn l.prog w K mg base "_law_gcd" 1 S_gcd := der_law_gcd A3 T  (k := 0)  sem_gcd
  have d4 : DFn l.prog w K mg base "_law_ratio" 2 S_lratio := der_law_ratio A4 T d3 (k := 1) (by decide) sem_lratio
  have d5 : DFn l.prog w K mg base "_law_plus" 3 S_lplus := der_law_plus A5 T d4 (k := 2) (by decide) sem_lplus
  have d6 : DFn l.prog w K mg base "_law_pick" 2 S_law_pick := der_law_pick A6 T d2 (k := 1) (by decide) sem_law_pick
  have d7 : DFn l.prog w K mg base "count" 1 ShW.S_count := der_count A7 T  (k := 0)  ShW.sem_count
  have d8 : DFn l.prog w K mg base "first_off" 2 S_first_off := der_first_off A8 T d7 (k := 1) (by decide) sem_first_off
  have d9_p : DFn l.prog w K mg base "_law_like" 1 (S_likeP 0) := dfn_no A9 sc_law_like (by decide)
  have d9_0 : DFn l.prog w K mg base "_law_like" 2 (S_like 0) := der_law_like A9 T d9_p (k := 1) (by decide) (sem_like 0)
  have d9_1 : DFn l.prog w K mg base "_law_like" 3 (S_like 1) := der_law_like A9 T d9_0 (k := 2) (by decide) (sem_like 1)
  have d9_2 : DFn l.prog w K mg base "_law_like" 4 (S_like 2) := der_law_like A9 T d9_1 (k := 3) (by decide) (sem_like 2)
  have d9 := d9_2
  have d10 : DFn l.prog w K mg base "_law_minus" 3 S_lminus := der_law_minus A10 T d4 (k := 2) (by decide) sem_lminus
  have d11 : DFn l.prog w K mg base "_law_product" 3 S_lproduct := der_law_product A11 T d4 (k := 2) (by decide) sem_lproduct
  have d12 : DFn l.prog w K mg base "_law_less" 1 S_less := der_law_less A12 T  (k := 0)  sem_less
  have d13 : DFn l.prog w K mg base "_law_off" 4 S_law_off := der_law_off A13 T d10 d11 d12 (k := 3) (by decide) (by decide) (by decide) sem_law_off
  have d14 : DFn l.prog w K mg base "_law_number" 1 S_number := der_law_number A14 T  (k := 0)  sem_number
  have d15 : DFn l.prog w K mg base "first_in" 1 S_first_in := der_first_in A15 T  (k := 0)  sem_first_in
  have d16 : DFn l.prog w K mg base "gaps" 1 S_gaps := der_gaps A16 T  (k := 0)  sem_gaps
  have d17 : DFn l.prog w K mg base "_law_gaps" 1 S_law_gaps := der_law_gaps A17 T  (k := 0)  sem_law_gaps
  exact der_law A18 T d1 d2 d4 d5 d6 d8 d9 d13 d14 d10 d11 d12 d15 d16 d17 d3 (k := 4) (by decide) (by decide) (by decide) (by decide) (by decide) (by decide) (by decide) (by decide) (by decide) (by decide) (by decide) (by decide) (by decide) (by decide) (by decide) (by decide) (law_sem law_run)
end Lk23
open PySem PySem.W PyProof.Rows
set_option maxHeartbeats 0 in
theorem PySem.Challenge.cw_truewheel_k23_words_drift_holds : PySem.Challenge.rw_truewheel_k23_words_drift.Holds := by
  w_on; o_law; k_head; (case hw => w_witness2)
  k_fill
  refine L2.walk_ofK (l := PySem.Challenge.rw_truewheel_k23_words_drift) (n := 63) (k := 5) (x := "script") (CX := L2.CX0) (sp := fun K => DL.spD K (DL.lawS 63)) rfl (by decide) rfl ⟨rfl, by decide, by decide⟩ (fun w h Y => PySem.W.kIn_of Y) ?F (fun K H a ns hl _ hS => DL.law_sp K H a ns hl hS) (fun _ _ _ _ h => h)
  case F =>
    intro w mg fa h KX G hmg
    refine' Lk23.all_mk KX G hmg ?a0 ?l0 ?c0 ?k0 ?a1 ?l1 ?c1 ?k1 ?a2 ?l2 ?c2 ?k2 ?a3 ?l3 ?c3 ?k3 ?a4 ?l4 ?c4 ?k4 ?a5 ?l5 ?c5 ?k5 ?a6 ?l6 ?c6 ?k6 ?a7 ?l7 ?c7 ?k7 ?a8 ?l8 ?c8 ?k8 ?a9 ?l9 ?c9 ?k9 ?a10 ?l10 ?c10 ?k10 ?a11 ?l11 ?c11 ?k11 ?a12 ?l12 ?c12 ?k12 ?a13 ?l13 ?c13 ?k13 ?a14 ?l14 ?c14 ?k14 ?a15 ?l15 ?c15 ?k15 ?a16 ?l16 ?c16 ?k16 ?a17 ?l17 ?c17 ?k17 ?a18 ?l18 ?c18 ?k18 ?z0 ?z1 ?z2 ?z3 ?z4 ?z5 ?z6 ?z7 ?z8 ?z9 ?z10 ?z11 ?z12 ?z13 ?z14
    (case a0 => k_is); (case l0 => k_is); (case c0 => k_is); (case k0 => k_is); (case a1 => k_is); (case l1 => k_is); (case c1 => k_is); (case k1 => k_is); (case a2 => k_is); (case l2 => k_is); (case c2 => k_is); (case k2 => k_is); (case a3 => k_is); (case l3 => k_is); (case c3 => k_is); (case k3 => k_is); (case a4 => k_is); (case l4 => k_is); (case c4 => k_is); (case k4 => k_is); (case a5 => k_is); (case l5 => k_is); (case c5 => k_is); (case k5 => k_is); (case a6 => k_is); (case l6 => k_is); (case c6 => k_is); (case k6 => k_is); (case a7 => k_is); (case l7 => k_is); (case c7 => k_is); (case k7 => k_is); (case a8 => k_is); (case l8 => k_is); (case c8 => k_is); (case k8 => k_is); (case a9 => k_is); (case l9 => k_is); (case c9 => k_is); (case k9 => k_is); (case a10 => k_is); (case l10 => k_is); (case c10 => k_is); (case k10 => k_is); (case a11 => k_is); (case l11 => k_is); (case c11 => k_is); (case k11 => k_is); (case a12 => k_is); (case l12 => k_is); (case c12 => k_is); (case k12 => k_is); (case a13 => k_is); (case l13 => k_is); (case c13 => k_is); (case k13 => k_is); (case a14 => k_is); (case l14 => k_is); (case c14 => k_is); (case k14 => k_is); (case a15 => k_is); (case l15 => k_is); (case c15 => k_is); (case k15 => k_is); (case a16 => k_is); (case l16 => k_is); (case c16 => k_is); (case k16 => k_is); (case a17 => k_is); (case l17 => k_is); (case c17 => k_is); (case k17 => k_is); (case a18 => k_is); (case l18 => k_is); (case c18 => k_is); (case k18 => k_is); (case z0 => k_is); (case z1 => k_is); (case z2 => k_is); (case z3 => k_is); (case z4 => k_is); (case z5 => k_is); (case z6 => k_is); (case z7 => k_is); (case z8 => k_is); (case z9 => k_is); (case z10 => k_is); (case z11 => k_is); (case z12 => k_is); (case z13 => k_is); (case z14 => k_is)

