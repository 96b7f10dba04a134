import PyProof.Rows.All
import Wide.All
import OpenK.AllK
import Wide.FinOn
import HandS.ForMost
import HandS.Evl
import HandS.IsInst
import HandS.TupAny
import HandS.TupLe
import HandS.Flow
import HandS.Style
import HandS.Wide
import HandS.WideMore
import HandS.Gcd
import HandS.TupLen
import KE.KMathGC
import HandS.Rev
import HandS.Zip
import HandS.Codes
import KE.KTupSum
import HandS.NoneIn
import HandS.TupMul
import PySem.Challenge.RW_truewheel_k13_nearest_between
set_option Elab.async false
set_option linter.all false
set_option maxRecDepth 100000
set_option maxHeartbeats 4000000
/-! DL: a data layer over HandS. An expression refines a data-level meaning, a statement a data-level step. -/
namespace DL
open PySem L2

/-! ### data, cells, results -/
inductive D where
  | none | bool (b : Bool) | int (i : Int) | str (s : Str) | list (xs : List D) | tuple (xs : List D) | dict (t : Bool) (ks vs : List D) | ro (xs : List D)

/-- what a local variable holds: frozen data, or a list or a dict of its own (p: handed in to be changed) -/
inductive Ce where
  | f (d : D) | l (p : Bool) (ds : List D) | k (p t : Bool) (ks vs : List D)
def Ce.ow : Ce → Bool
  | .f _ => false | .l _ _ => true | .k _ _ _ _ => true
def Ce.io : Ce → Bool
  | .f _ => false | .l p _ => p | .k p _ _ _ => p
def Ce.d : Ce → D
  | .f d => d | .l _ ds => .list ds | .k _ t ks vs => .dict t ks vs
def Ce.mem : Ce → List D
  | .f _ => [] | .l _ ds => ds | .k _ _ _ vs => vs
/-- the sort of a cell -/
def Ce.kd : Ce → Nat
  | .f _ => 0 | .l false _ => 1 | .l true _ => 2 | .k false false _ _ => 3 | .k true false _ _ => 4 | .k false true _ _ => 5 | .k true true _ _ => 6
/-- the cell as a callee sees it -/
def Ce.lent : Ce → Ce
  | .f d => .f d | .l _ ds => .l true ds | .k _ t ks vs => .k true t ks vs
/-- what a callee left, with the mark of the caller's cell -/
def Ce.back : Ce → Ce → Ce
  | .l p _, .l _ ds => .l p ds | .k p _ _ _, .k _ t ks vs => .k p t ks vs | c, _ => c

inductive Rs (α : Type) where
  | ok (a : α) | ex (n : String) (ds : List D) | no
def Rs.bind {α β : Type} : Rs α → (α → Rs β) → Rs β
  | .ok a, f => f a
  | .ex n ds, _ => .ex n ds
  | .no, _ => .no
@[simp] theorem Rs.bind_ok {α β : Type} (a : α) (f : α → Rs β) : (Rs.ok a).bind f = f a := rfl
@[simp] theorem Rs.bind_ex {α β : Type} (n : String) (ds : List D) (f : α → Rs β) : (Rs.ex n ds).bind f = .ex n ds := rfl
@[simp] theorem Rs.bind_no {α β : Type} (f : α → Rs β) : (Rs.no : Rs α).bind f = .no := rfl
theorem Rs.bind_eq {α β : Type} {r : Rs α} {f : α → Rs β} {b : β} (h : r.bind f = .ok b) : ∃ a, r = .ok a ∧ f a = .ok b := by
  cases r with
  | ok a => exact ⟨a, rfl, h⟩
  | ex n ds => cases h
  | no => cases h
abbrev En := List (Option Ce)
abbrev M (α : Type) := En → Rs (α × En)
def M.pure {α : Type} (a : α) : M α := fun e => .ok (a, e)
def M.bind {α β : Type} (m : M α) (f : α → M β) : M β := fun e => (m e).bind fun p => f p.1 p.2
@[simp] theorem M.pure_ap {α : Type} (a : α) (e : En) : M.pure a e = .ok (a, e) := rfl
@[simp] theorem M.bind_ap {α β : Type} (m : M α) (f : α → M β) (e : En) : M.bind m f e = (m e).bind fun p => f p.1 p.2 := rfl
theorem M.bind_eq {α β : Type} {m : M α} {f : α → M β} {e : En} {p : β × En} (h : M.bind m f e = .ok p) : ∃ a e1, m e = .ok (a, e1) ∧ f a e1 = .ok p := by
  obtain ⟨⟨a, e1⟩, h1, h2⟩ := Rs.bind_eq h
  exact ⟨a, e1, h1, h2⟩
def M.lift {α : Type} (r : Rs α) : M α := fun e => r.bind fun a => .ok (a, e)
@[simp] theorem M.lift_ap {α : Type} (r : Rs α) (e : En) : M.lift r e = r.bind fun a => .ok (a, e) := rfl

inductive Out where
  | nx (e : En) | rt (c : Ce) (e : En) | bk (e : En) | ct (e : En) | ex (n : String) (ds : List D) | no

/-! ### data in the heap -/
def kD : Key → D
  | .inl i => .int i
  | .inr s => .str s
/-- a dict's object, by its keys and values -/
def DcO (t : Bool) (o : HO) (ks : List D) (xs : List V) : Prop :=
  (t = false ∧ ∃ kvs : List (Key × V), o = .dK kvs ∧ kvs.map (fun p => kD p.1) = ks ∧ kvs.map (·.2) = xs) ∨
    (t = true ∧ ∃ kvs : List (List Key × V), o = .dT kvs ∧ kvs.map (fun p => D.tuple (p.1.map kD)) = ks ∧ kvs.map (·.2) = xs)
mutual
inductive Dn (K : PySem.W.Frag) (F : Hp) : V → D → Prop
  | non : Dn K F .non .none
  | bl (b : Bool) : Dn K F (.bl b) (.bool b)
  | int (i : Int) : Dn K F (.int i) (.int i)
  | str (x : Str) : Dn K F (.str x) (.str x)
  | lst {a : Addr} {xs : List V} {ds : List D} : F a = some (.lst xs) → DnA K F xs ds → Dn K F (.ref a) (.list ds)
  | ro {a : Addr} {xs : List V} {ds : List D} : SqL K F a xs → DnA K F xs ds → Dn K F (.ref a) (.ro ds)
  | tup {a : Addr} {xs : List V} {ds : List D} : F a = some (.tup xs) → DnA K F xs ds → Dn K F (.ref a) (.tuple ds)
  | dic {a : Addr} {t : Bool} {o : HO} {xs : List V} {ks vs : List D} : F a = some o → DcO t o ks xs → DnA K F xs vs → Dn K F (.ref a) (.dict t ks vs)
inductive DnA (K : PySem.W.Frag) (F : Hp) : List V → List D → Prop
  | nil : DnA K F [] []
  | cons {v : V} {vs : List V} {d : D} {ds : List D} : Dn K F v d → DnA K F vs ds → DnA K F (v :: vs) (d :: ds)
end
abbrev Ex := Evl.Ex
section
variable {K : PySem.W.Frag} {F F' H H' : Hp}
mutual
theorem Dn.mono (e : Ex F F') : ∀ {v : V} {d : D}, Dn K F v d → Dn K F' v d
  | _, _, .non => .non
  | _, _, .bl b => .bl b
  | _, _, .int i => .int i
  | _, _, .str x => .str x
  | _, _, .lst h ha => .lst (e _ _ h) (DnA.mono e ha)
  | _, _, .ro h ha => .ro (Evl.ex_l e h) (DnA.mono e ha)
  | _, _, .tup h ha => .tup (e _ _ h) (DnA.mono e ha)
  | _, _, .dic h hk ha => .dic (e _ _ h) hk (DnA.mono e ha)
theorem DnA.mono (e : Ex F F') : ∀ {vs : List V} {ds : List D}, DnA K F vs ds → DnA K F' vs ds
  | _, _, .nil => .nil
  | _, _, .cons h ha => .cons (Dn.mono e h) (DnA.mono e ha)
end
theorem DnA.len : ∀ {vs : List V} {ds : List D}, DnA K F vs ds → vs.length = ds.length
  | _, _, .nil => rfl
  | _, _, .cons _ ha => congrArg (· + 1) (DnA.len ha)
theorem DnA.get : ∀ {vs : List V} {ds : List D} {i : Nat} {d : D}, DnA K F vs ds → ds[i]? = some d → ∃ v, vs[i]? = some v ∧ Dn K F v d
  | _, _, _, _, .nil, h => by simp at h
  | _, _, 0, _, .cons h _, e => by
    simp at e
    subst e
    exact ⟨_, by simp, h⟩
  | _, _, i + 1, _, .cons _ ha, e => by
    simp at e
    obtain ⟨v, h1, h2⟩ := DnA.get ha e
    exact ⟨v, by simpa using h1, h2⟩
theorem DnA.getV : ∀ {vs : List V} {ds : List D} {i : Nat} {v : V}, DnA K F vs ds → vs[i]? = some v → ∃ d, ds[i]? = some d ∧ Dn K F v d
  | _, _, _, _, .nil, h => by simp at h
  | _, _, 0, _, .cons h _, e => by
    simp at e
    subst e
    exact ⟨_, by simp, h⟩
  | _, _, i + 1, _, .cons _ ha, e => by
    simp at e
    obtain ⟨v, h1, h2⟩ := DnA.getV ha e
    exact ⟨v, by simpa using h1, h2⟩
theorem DnA.app : ∀ {vs ws : List V} {ds es : List D}, DnA K F vs ds → DnA K F ws es → DnA K F (vs ++ ws) (ds ++ es)
  | _, _, _, _, .nil, h => h
  | _, _, _, _, .cons h ha, hb => .cons h (DnA.app ha hb)
theorem DnA.take : ∀ {vs : List V} {ds : List D} (n : Nat), DnA K F vs ds → DnA K F (vs.take n) (ds.take n)
  | _, _, 0, _ => by simpa using DnA.nil
  | _, _, n + 1, .nil => by simpa using DnA.nil
  | _, _, n + 1, .cons h ha => by simpa using DnA.cons h (DnA.take n ha)
theorem DnA.drop : ∀ {vs : List V} {ds : List D} (n : Nat), DnA K F vs ds → DnA K F (vs.drop n) (ds.drop n)
  | _, _, 0, h => by simpa using h
  | _, _, n + 1, .nil => by simpa using DnA.nil
  | _, _, n + 1, .cons h ha => by simpa using DnA.drop n ha
theorem DnA.set : ∀ {vs : List V} {ds : List D} {v : V} {d : D} (n : Nat), DnA K F vs ds → Dn K F v d → DnA K F (vs.set n v) (ds.set n d)
  | _, _, _, _, _, .nil, _ => by simpa using DnA.nil
  | _, _, _, _, 0, .cons _ ha, h => by simpa using DnA.cons h ha
  | _, _, _, _, n + 1, .cons h ha, h' => by simpa using DnA.cons h (DnA.set n ha h')
theorem DnA.rev : ∀ {vs : List V} {ds : List D}, DnA K F vs ds → DnA K F vs.reverse ds.reverse
  | _, _, .nil => .nil
  | _, _, .cons h ha => by
    rw [List.reverse_cons, List.reverse_cons]
    exact DnA.app (DnA.rev ha) (.cons h .nil)
theorem Dn.list_inv {v : V} {ds : List D} (h : Dn K F v (.list ds)) : ∃ a xs, v = .ref a ∧ F a = some (.lst xs) ∧ DnA K F xs ds := by
  cases h with
  | lst h ha => exact ⟨_, _, rfl, h, ha⟩
theorem Dn.ro_inv {v : V} {ds : List D} (h : Dn K F v (.ro ds)) : ∃ a xs, v = .ref a ∧ SqL K F a xs ∧ DnA K F xs ds := by
  cases h with
  | ro h ha => exact ⟨_, _, rfl, h, ha⟩
theorem Dn.tuple_inv {v : V} {ds : List D} (h : Dn K F v (.tuple ds)) : ∃ a xs, v = .ref a ∧ SqT K F a xs ∧ DnA K F xs ds := by
  cases h with
  | tup h ha => exact ⟨_, _, rfl, SqT.of h, ha⟩
theorem Dn.tuple_invS {v : V} {ds : List D} (h : Dn K F v (.tuple ds)) : ∃ a xs, v = .ref a ∧ F a = some (.tup xs) ∧ DnA K F xs ds := by
  cases h with
  | tup h ha => exact ⟨_, _, rfl, h, ha⟩
theorem Dn.dict_inv {v : V} {t : Bool} {ks vs : List D} (h : Dn K F v (.dict t ks vs)) : ∃ a o xs, v = .ref a ∧ F a = some o ∧ DcO t o ks xs ∧ DnA K F xs vs := by
  cases h with
  | dic h hk ha => exact ⟨_, _, _, rfl, h, hk, ha⟩
theorem Dn.int_inv {v : V} {i : Int} (h : Dn K F v (.int i)) : v = .int i := by cases h; rfl
theorem Dn.bool_inv {v : V} {i : Bool} (h : Dn K F v (.bool i)) : v = .bl i := by cases h; rfl
theorem Dn.str_inv {v : V} {i : Str} (h : Dn K F v (.str i)) : v = .str i := by cases h; rfl
theorem Dn.none_inv {v : V} (h : Dn K F v .none) : v = .non := by cases h; rfl
theorem DnA.ints : ∀ {vs : List V} {is : List Int}, DnA K F vs (is.map .int) → vs = is.map .int
  | _, [], h => by cases h; rfl
  | _, i :: is, h => by
    cases h with
    | cons h ha =>
      rw [h.int_inv, DnA.ints ha]
      rfl
theorem DnA.strs : ∀ {vs : List V} {is : List Str}, DnA K F vs (is.map .str) → vs = is.map .str
  | _, [], h => by cases h; rfl
  | _, i :: is, h => by
    cases h with
    | cons h ha =>
      rw [h.str_inv, DnA.strs ha]
      rfl
theorem DnA.bools : ∀ {vs : List V} {is : List Bool}, DnA K F vs (is.map .bool) → vs = is.map .bl
  | _, [], h => by cases h; rfl
  | _, i :: is, h => by
    cases h with
    | cons h ha =>
      rw [h.bool_inv, DnA.bools ha]
      rfl
theorem dnA_ints : ∀ is : List Int, DnA K F (is.map .int) (is.map .int)
  | [] => .nil
  | i :: is => .cons (.int i) (dnA_ints is)
theorem dnA_strs : ∀ is : List Str, DnA K F (is.map .str) (is.map .str)
  | [] => .nil
  | i :: is => .cons (.str i) (dnA_strs is)
theorem dnA_bools : ∀ is : List Bool, DnA K F (is.map .bl) (is.map .bool)
  | [] => .nil
  | i :: is => .cons (.bl i) (dnA_bools is)
end

/-! ### the heap goes on -/
structure Go (F H F' H' : Hp) (ms : Addr → Prop) : Prop where
  ff : Ex F F'
  hh : ∀ b o, H b = some o → ¬ ms b → H' b = some o
  fh : Ex F' H'
  st : ∀ b, F b = none → (H b).isSome = true → F' b = none ∧ (H' b).isSome = true
abbrev noA : Addr → Prop := fun _ => False
section
variable {F H F1 H1 F2 H2 : Hp} {ms ms' : Addr → Prop} {a : Addr} {o : HO}
theorem Go.refl (e : Ex F H) : Go F H F H ms := ⟨Evl.Ex.refl _, fun _ _ h _ => h, e, fun _ h1 h2 => ⟨h1, h2⟩⟩
theorem Go.trans (x : Go F H F1 H1 ms) (y : Go F1 H1 F2 H2 ms) : Go F H F2 H2 ms :=
  ⟨x.ff.trans y.ff, fun b o h n => y.hh b o (x.hh b o h n) n, y.fh, fun b h1 h2 => let ⟨p, q⟩ := x.st b h1 h2; y.st b p q⟩
theorem Go.mono (x : Go F H F1 H1 ms) (h : ∀ b, ms b → ms' b) : Go F H F1 H1 ms' := ⟨x.ff, fun b o e n => x.hh b o e fun z => n (h b z), x.fh, x.st⟩
theorem Go.any (x : Go F H F1 H1 noA) : Go F H F1 H1 ms := x.mono fun _ z => z.elim
/-- what was there, frozen or not, is there -/
theorem Go.some' (x : Go F H F1 H1 ms) (e : Ex F H) {b : Addr} (h : (H b).isSome = true) : (H1 b).isSome = true := by
  cases q : F b with
  | none => exact (x.st b q h).2
  | some u => rw [x.fh b u (x.ff b u q)]; rfl
theorem Go.old (x : Go F H F1 H1 ms) (e : Ex F H) {b : Addr} (h : H1 b = none) : H b = none := by
  cases q : H b with
  | none => rfl
  | some u =>
    have := x.some' e (b := b) (by rw [q]; rfl)
    rw [h] at this
    cases this
theorem ex_none {F H : Hp} (e : Ex F H) {b : Addr} (h : H b = none) : F b = none := by
  cases q : F b with
  | none => rfl
  | some u => rw [e b u q] at h; cases h
/-- a new object, frozen at once -/
theorem Go.newF (e : Ex F H) (h : H a = none) : Go F H (upd F a o) (upd H a o) ms := by
  refine ⟨Evl.Ex.new (ex_none e h), fun b u q _ => ?_, fun b u q => ?_, fun b h1 h2 => ?_⟩
  · rw [upd_ne (ne_of_none q h)]; exact q
  · by_cases hb : b = a
    · subst hb; rw [upd_same] at q ⊢; exact q
    · rw [upd_ne hb] at q ⊢; exact e b u q
  · have hb : b ≠ a := fun z => by subst z; rw [h] at h2; cases h2
    rw [upd_ne hb, upd_ne hb]
    exact ⟨h1, h2⟩
/-- a new object of its own -/
theorem Go.newO (e : Ex F H) (h : H a = none) : Go F H F (upd H a o) ms := by
  refine ⟨Evl.Ex.refl _, fun b u q _ => ?_, fun b u q => ?_, fun b h1 h2 => ?_⟩
  · rw [upd_ne (ne_of_none q h)]; exact q
  · rw [upd_ne (ne_of_none q (ex_none e h))]; exact e b u q
  · have hb : b ≠ a := fun z => by subst z; rw [h] at h2; cases h2
    rw [upd_ne hb]
    exact ⟨h1, h2⟩
/-- a new object of its own is frozen -/
theorem Go.frz (x : Go F H F1 H1 ms) (h : H a = none) (h1 : F1 a = none) (h2 : H1 a = some o) : Go F H (upd F1 a o) H1 ms := by
  refine ⟨x.ff.trans (Evl.Ex.new h1), x.hh, fun b u q => ?_, fun b p q => ?_⟩
  · by_cases hb : b = a
    · subst hb; rw [upd_same] at q; cases q; exact h2
    · rw [upd_ne hb] at q; exact x.fh b u q
  · have hb : b ≠ a := fun z => by subst z; rw [h] at q; cases q
    rw [upd_ne hb]
    exact x.st b p q
/-- an object that is not frozen is written -/
theorem Go.wr (e : Ex F H) (h : F a = none) (hm : ms a) (hs : (H a).isSome = true) : Go F H F (upd H a o) ms := by
  refine ⟨Evl.Ex.refl _, fun b u q n => ?_, fun b u q => ?_, fun b h1 h2 => ?_⟩
  · have hb : b ≠ a := fun z => by subst z; exact n hm
    rw [upd_ne hb]; exact q
  · rw [upd_ne (ne_of_none q h)]; exact e b u q
  · by_cases hb : b = a
    · subst hb; rw [upd_same]; exact ⟨h1, rfl⟩
    · rw [upd_ne hb]; exact ⟨h1, h2⟩
end

/-! ### the state -/
/-- the object of a cell, its members -/
def CeO (o : HO) : Ce → List V → Prop
  | .f _, _ => False
  | .l _ _, xs => o = .lst xs
  | .k _ t ks _, xs => DcO t o ks xs
/-- the entry: what was frozen, what was there, which slots hold what was handed in to be changed -/
structure Bs where
  F : Hp
  H : Hp
  io : List (Nat × Addr)
def Bs.ms (G : Bs) : Addr → Prop := fun a => ∃ i, (i, a) ∈ G.io
def At (K : PySem.W.Frag) (G : Bs) (F H : Hp) (i : Nat) (c : Ce) (v : V) : Prop :=
  (∃ d, c = .f d ∧ Dn K F v d) ∨
    ∃ a o xs, v = .ref a ∧ F a = none ∧ H a = some o ∧ CeO o c xs ∧ DnA K F xs c.mem ∧ (c.io = true → (i, a) ∈ G.io) ∧ (c.io = false → G.H a = none)
/-- the addresses of one's own objects -/
def Lv (σ : L2.St) (e : En) : Addr → Prop := fun a => ∃ (i : Nat) (c : Ce), e[i]? = some (some c) ∧ c.ow = true ∧ σ[i]? = some (some (V.ref a))
structure R (K : PySem.W.Frag) (G : Bs) (F H : Hp) (σ : L2.St) (e : En) : Prop where
  go : Go G.F G.H F H G.ms
  ba : Ex G.F G.H
  at_ : ∀ (i : Nat) (c : Ce), e[i]? = some (some c) → ∃ v, σ[i]? = some (some v) ∧ At K G F H i c v
  sep : ∀ (i j : Nat) (c c' : Ce) (a : Addr), i ≠ j → e[i]? = some (some c) → e[j]? = some (some c') → c.ow = true → c'.ow = true → σ[i]? = some (some (V.ref a)) → σ[j]? ≠ some (some (V.ref a))
  io : ∀ p ∈ G.io, σ[p.1]? = some (some (V.ref p.2)) ∧ ∃ c : Ce, e[p.1]? = some (some c) ∧ c.io = true
  len : e.length = σ.length
structure Nx (K : PySem.W.Frag) (G : Bs) (σ : L2.St) (F H : Hp) (e : En) (F' H' : Hp) (e' : En) : Prop where
  r : R K G F' H' σ e'
  go : Go F H F' H' (Lv σ e)
  sh : e'.map (Option.map Ce.kd) = e.map (Option.map Ce.kd)
section
variable {K : PySem.W.Frag} {G : Bs} {F H F1 H1 F2 H2 : Hp} {σ : L2.St} {e e1 e2 : En} {v : V} {d : D} {c : Ce} {i : Nat} {a : Addr}
theorem R.fh (r : R K G F H σ e) : Ex F H := r.go.fh
theorem CeO.ow {o : HO} {xs : List V} (h : CeO o c xs) : c.ow = true := by
  cases c with
  | f d => exact h.elim
  | l p ds => rfl
  | k p t ks vs => rfl
theorem At.fz (h : At K G F H i (.f d) v) : Dn K F v d := by
  rcases h with ⟨d', e, h⟩ | ⟨a, o, xs, _, _, _, h, _⟩
  · cases e; exact h
  · exact h.elim
theorem At.own (h : At K G F H i c v) (hc : c.ow = true) : ∃ a o xs, v = .ref a ∧ F a = none ∧ H a = some o ∧ CeO o c xs ∧ DnA K F xs c.mem ∧ (c.io = true → (i, a) ∈ G.io) ∧ (c.io = false → G.H a = none) := by
  rcases h with ⟨d, e, h⟩ | h
  · subst e; cases hc
  · exact h
theorem kd_ow {c c' : Ce} (h : c.kd = c'.kd) : c.ow = c'.ow ∧ c.io = c'.io := by
  cases c with
  | f d => cases c' with
    | f d' => exact ⟨rfl, rfl⟩
    | l p ds => cases p <;> cases h
    | k p t ks vs => cases p <;> cases t <;> cases h
  | l p ds => cases c' with
    | f d' => cases p <;> cases h
    | l p' ds => cases p <;> cases p' <;> first | exact ⟨rfl, rfl⟩ | cases h
    | k p' t ks vs => cases p <;> cases p' <;> cases t <;> cases h
  | k p t ks vs => cases c' with
    | f d' => cases p <;> cases t <;> cases h
    | l p' ds => cases p <;> cases p' <;> cases t <;> cases h
    | k p' t' ks vs => cases p <;> cases p' <;> cases t <;> cases t' <;> first | exact ⟨rfl, rfl⟩ | cases h
theorem sh_at (h : e1.map (Option.map Ce.kd) = e.map (Option.map Ce.kd)) (hc : e[i]? = some (some c)) : ∃ c' : Ce, e1[i]? = some (some c') ∧ c'.kd = c.kd := by
  have h1 : (e1.map (Option.map Ce.kd))[i]? = (e.map (Option.map Ce.kd))[i]? := by rw [h]
  rw [List.getElem?_map, List.getElem?_map, hc] at h1
  cases q : e1[i]? with
  | none => rw [q] at h1; cases h1
  | some o =>
    rw [q] at h1
    cases o with
    | none => cases h1
    | some c' => exact ⟨c', rfl, by simpa using h1⟩
theorem sh_lv (h : e1.map (Option.map Ce.kd) = e.map (Option.map Ce.kd)) {b : Addr} (hb : Lv σ e1 b) : Lv σ e b := by
  obtain ⟨i, c, h1, h2, h3⟩ := hb
  obtain ⟨c', h4, h5⟩ := sh_at h.symm h1
  exact ⟨i, c', h4, by rw [(kd_ow h5).1]; exact h2, h3⟩
theorem Nx.refl (r : R K G F H σ e) : Nx K G σ F H e F H e := ⟨r, Go.refl r.fh, rfl⟩
theorem Nx.trans (x : Nx K G σ F H e F1 H1 e1) (y : Nx K G σ F1 H1 e1 F2 H2 e2) : Nx K G σ F H e F2 H2 e2 :=
  ⟨y.r, x.go.trans (y.go.mono fun _ hb => sh_lv x.sh hb), y.sh.trans x.sh⟩
theorem Nx.dn (x : Nx K G σ F H e F1 H1 e1) (h : Dn K F v d) : Dn K F1 v d := h.mono x.go.ff
/-- of one's own, so there -/
theorem R.lv (r : R K G F H σ e) {b : Addr} (h : Lv σ e b) : F b = none ∧ (H b).isSome = true := by
  obtain ⟨i, c, h1, h2, h3⟩ := h
  obtain ⟨v, h4, h5⟩ := r.at_ i c h1
  obtain ⟨a, o, xs, rfl, h6, h7, _⟩ := h5.own h2
  rw [h3] at h4
  cases h4
  exact ⟨h6, by rw [h7]; rfl⟩
theorem At.step (h : At K G F H i c v) (go : Go F H F1 H1 noA) : At K G F1 H1 i c v := by
  rcases h with ⟨d, e, h⟩ | ⟨a, o, xs, h1, h2, h3, h4, h5, h6, h7⟩
  · exact .inl ⟨d, e, h.mono go.ff⟩
  · refine .inr ⟨a, o, xs, h1, (go.st a h2 (by rw [h3]; rfl)).1, go.hh a o h3 (fun z => z), h4, h5.mono go.ff, h6, h7⟩
/-- nothing of one's own is changed -/
theorem R.step (r : R K G F H σ e) (go : Go F H F1 H1 noA) : Nx K G σ F H e F1 H1 e :=
  ⟨⟨r.go.trans go.any, r.ba, fun i c h => let ⟨v, h1, h2⟩ := r.at_ i c h; ⟨v, h1, h2.step go⟩, r.sep, r.io, r.len⟩, go.any, rfl⟩
/-- new since H, so of no slot, and not of the entry -/
theorem R.new (r : R K G F H σ e) (h : H a = none) : ¬ Lv σ e a ∧ G.H a = none ∧ G.F a = none ∧ F a = none := by
  have g : G.H a = none := r.go.old r.ba h
  exact ⟨fun z => (by have := (r.lv z).2; rw [h] at this; cases this), g, ex_none r.ba g, ex_none r.fh h⟩
end

/-! ### values that come -/
/-- new or frozen: c is v, come since H -/
def NAt (K : PySem.W.Frag) (H F' H' : Hp) (c : Ce) (v : V) : Prop :=
  (∃ d, c = .f d ∧ Dn K F' v d) ∨ (c.io = false ∧ ∃ a o xs, v = .ref a ∧ H a = none ∧ F' a = none ∧ H' a = some o ∧ CeO o c xs ∧ DnA K F' xs c.mem)
/-- a handle: a value (frozen, or new), or what stands in a slot when it is looked at -/
inductive Hd where
  | v (c : Ce) | s (i : Nat)
def HAt (K : PySem.W.Frag) (G : Bs) (σ : L2.St) (F H : Hp) (e : En) : Hd → V → Prop
  | .v c, v => (∃ d, c = .f d ∧ Dn K F v d) ∨ (c.io = false ∧ ∃ a o xs, v = .ref a ∧ G.H a = none ∧ F a = none ∧ H a = some o ∧ ¬ Lv σ e a ∧ CeO o c xs ∧ DnA K F xs c.mem)
  | .s i, v => σ[i]? = some (some v) ∧ ∃ c : Ce, e[i]? = some (some c)
def Hd.get (h : Hd) (e : En) : Rs D := match h with
  | .v c => .ok c.d
  | .s i => match e[i]? with
    | some (some c) => .ok c.d
    | _ => .no
/-- v looks like d just now -/
def Vw (K : PySem.W.Frag) (F H : Hp) (d : D) (v : V) : Prop :=
  Dn K F v d ∨ ∃ a o xs c, v = .ref a ∧ H a = some o ∧ CeO o c xs ∧ DnA K F xs c.mem ∧ d = c.d
section
variable {K : PySem.W.Frag} {G : Bs} {F H F1 H1 F2 H2 : Hp} {σ : L2.St} {e e1 e2 : En} {v : V} {d : D} {c : Ce} {i : Nat} {a : Addr} {h : Hd}
theorem NAt.fz (x : NAt K H F1 H1 (.f d) v) : Dn K F1 v d := by
  rcases x with ⟨d', e, h⟩ | ⟨_, a, o, xs, _, _, _, _, h, _⟩
  · cases e; exact h
  · exact h.elim
theorem NAt.hat (x : NAt K H F1 H1 c v) (r : R K G F H σ e) (n : Nx K G σ F H e F1 H1 e1) : HAt K G σ F1 H1 e1 (.v c) v := by
  rcases x with ⟨d, rfl, h⟩ | ⟨hio, a, o, xs, rfl, h1, h2, h3, h4, h5⟩
  · exact .inl ⟨d, rfl, h⟩
  · obtain ⟨p, q, _⟩ := r.new h1
    exact .inr ⟨hio, a, o, xs, rfl, q, h2, h3, fun z => p (sh_lv n.sh z), h4, h5⟩
theorem HAt.nx (x : HAt K G σ F H e h v) (n : Nx K G σ F H e F1 H1 e1) : HAt K G σ F1 H1 e1 h v := by
  cases h with
  | v c =>
    rcases x with ⟨d, rfl, h⟩ | ⟨hio, a, o, xs, rfl, h1, h2, h3, h3b, h4, h5⟩
    · exact .inl ⟨d, rfl, n.dn h⟩
    · refine .inr ⟨hio, a, o, xs, rfl, h1, (n.go.st a h2 (by rw [h3]; rfl)).1, n.go.hh a o h3 h3b, fun z => h3b (sh_lv n.sh z), h4, h5.mono n.go.ff⟩
  | s i =>
    obtain ⟨h1, c, h2⟩ := x
    obtain ⟨c', h3, _⟩ := sh_at n.sh h2
    exact ⟨h1, c', h3⟩
theorem HAt.vw (x : HAt K G σ F H e h v) (r : R K G F H σ e) (g : h.get e = .ok d) : Vw K F H d v := by
  cases h with
  | v c =>
    have gd : c.d = d := Rs.ok.inj g
    rcases x with ⟨d', rfl, h⟩ | ⟨hio, a, o, xs, rfl, h1, h2, h3, h3b, h4, h5⟩
    · subst gd; exact .inl h
    · exact .inr ⟨a, o, xs, c, rfl, h3, h4, h5, gd.symm⟩
  | s i =>
    obtain ⟨h1, c, h2⟩ := x
    have gd : c.d = d := by
      simp only [Hd.get, h2] at g
      exact Rs.ok.inj g
    obtain ⟨v', h3, h4⟩ := r.at_ i c h2
    rw [h1] at h3
    cases h3
    rcases h4 with ⟨d', rfl, h⟩ | ⟨a, o, xs, rfl, h5, h6, h7, h8, _⟩
    · subst gd; exact .inl h
    · exact .inr ⟨a, o, xs, c, rfl, h6, h7, h8, gd.symm⟩
theorem Vw.int {i : Int} (x : Vw K F H (.int i) v) : v = .int i := by
  rcases x with h | ⟨a, o, xs, c, rfl, _, h, _, e⟩
  · exact h.int_inv
  · cases c <;> first | exact h.elim | cases e
theorem Vw.bool {i : Bool} (x : Vw K F H (.bool i) v) : v = .bl i := by
  rcases x with h | ⟨a, o, xs, c, rfl, _, h, _, e⟩
  · exact h.bool_inv
  · cases c <;> first | exact h.elim | cases e
theorem Vw.str {i : Str} (x : Vw K F H (.str i) v) : v = .str i := by
  rcases x with h | ⟨a, o, xs, c, rfl, _, h, _, e⟩
  · exact h.str_inv
  · cases c <;> first | exact h.elim | cases e
theorem Vw.none (x : Vw K F H .none v) : v = .non := by
  rcases x with h | ⟨a, o, xs, c, rfl, _, h, _, e⟩
  · exact h.none_inv
  · cases c <;> first | exact h.elim | cases e
theorem Vw.list {ds : List D} (x : Vw K F H (.list ds) v) (fh : Ex F H) : ∃ a xs, v = .ref a ∧ H a = some (.lst xs) ∧ DnA K F xs ds := by
  rcases x with h | ⟨a, o, xs, c, rfl, h1, h, h2, e⟩
  · obtain ⟨a, xs, e1, h1, h2⟩ := h.list_inv
    exact ⟨a, xs, e1, fh _ _ h1, h2⟩
  · cases c with
    | f d => exact h.elim
    | l p ds' =>
      cases e
      have h' : o = .lst xs := h
      subst h'
      exact ⟨a, xs, rfl, h1, h2⟩
    | k p t ks vs => cases e
theorem Vw.ro {ds : List D} (x : Vw K F H (.ro ds) v) (fh : Ex F H) : ∃ a xs, v = .ref a ∧ SqL K H a xs ∧ DnA K F xs ds := by
  rcases x with h | ⟨a, o, xs, c, rfl, h1, h, h2, e⟩
  · obtain ⟨a, xs, e1, h1, h2⟩ := h.ro_inv
    exact ⟨a, xs, e1, Evl.ex_l fh h1, h2⟩
  · cases c <;> first | exact h.elim | cases e
theorem Vw.tuple {ds : List D} (x : Vw K F H (.tuple ds) v) (fh : Ex F H) : ∃ a xs, v = .ref a ∧ SqT K H a xs ∧ DnA K F xs ds ∧ Dn K F v (.tuple ds) := by
  rcases x with h | ⟨a, o, xs, c, rfl, h1, h, h2, e⟩
  · obtain ⟨a, xs, e1, h1, h2⟩ := h.tuple_inv
    exact ⟨a, xs, e1, Evl.ex_t fh h1, h2, h⟩
  · cases c <;> first | exact h.elim | cases e
theorem Vw.dict {t : Bool} {ks vs : List D} (x : Vw K F H (.dict t ks vs) v) (fh : Ex F H) : ∃ a o xs, v = .ref a ∧ H a = some o ∧ DcO t o ks xs ∧ DnA K F xs vs := by
  rcases x with h | ⟨a, o, xs, c, rfl, h1, h, h2, e⟩
  · obtain ⟨a, o, xs, e1, h1, h2, h3⟩ := h.dict_inv
    exact ⟨a, o, xs, e1, fh _ _ h1, h2, h3⟩
  · cases c with
    | f d => exact h.elim
    | l p ds' => cases e
    | k p t' ks' vs' =>
      cases e
      exact ⟨a, o, xs, rfl, h1, h, h2⟩
/-- data that is a mere value is itself -/
def D.flat : D → Bool
  | .none => true | .bool _ => true | .int _ => true | .str _ => true | _ => false
end
end DL

namespace DL
open PySem L2

/-! ### weaker readings -/
section
variable {X : Cx} {e : Expr} {es : List Expr}
theorem PEimp {t t' : TE} (h : PE X e t) (hi : ∀ σ H Q, t' σ H Q → t σ H Q) : PE X e t' := ⟨fun pins s σ H Q I q => h.run pins s σ H Q I (hi σ H Q q)⟩
theorem PTimp {t t' : TT} (h : PT X e t) (hi : ∀ σ H Q, t' σ H Q → t σ H Q) : PT X e t' := ⟨fun pins s σ H Q I q => h.run pins s σ H Q I (hi σ H Q q)⟩
theorem PWimp {t t' : TT} (h : PW X e t) (hi : ∀ σ H Q, t' σ H Q → t σ H Q) : PW X e t' := ⟨fun wh pins s σ H Q I q => h.run wh pins s σ H Q I (hi σ H Q q)⟩
theorem PAimp {t t' : TA} (h : PA X es t) (hi : ∀ σ H Q, t' σ H Q → t σ H Q) : PA X es t' := ⟨fun pos pins s σ H Q I q => h.run pos pins s σ H Q I (hi σ H Q q)⟩
end

/-! ### meanings -/
section
variable (K : PySem.W.Frag)
def tF (m : M D) : TE := fun σ H Q => ∃ G F e d e', R K G F H σ e ∧ m e = .ok (d, e') ∧ ∀ v F' H', Nx K G σ F H e F' H' e' → Dn K F' v d → Q v H'
def tN (m : M Ce) : TE := fun σ H Q => ∃ G F e c e', R K G F H σ e ∧ m e = .ok (c, e') ∧ ∀ v F' H', Nx K G σ F H e F' H' e' → NAt K H F' H' c v → Q v H'
def tH (m : M Hd) : TE := fun σ H Q => ∃ G F e c e', R K G F H σ e ∧ m e = .ok (c, e') ∧ ∀ v F' H', Nx K G σ F H e F' H' e' → HAt K G σ F' H' e' c v → Q v H'
def tT (m : M Bool) : TT := fun σ H Q => ∃ G F e b e', R K G F H σ e ∧ m e = .ok (b, e') ∧ ∀ F' H', Nx K G σ F H e F' H' e' → Q b H'
def tA (m : M (List D)) : TA := fun σ H Q => ∃ G F e ds e', R K G F H σ e ∧ m e = .ok (ds, e') ∧ ∀ vs F' H', Nx K G σ F H e F' H' e' → DnA K F' vs ds → Q vs H'
inductive HAs (G : Bs) (σ : L2.St) (F H : Hp) (e : En) : List Hd → List V → Prop where
  | nil : HAs G σ F H e [] []
  | cons {h : Hd} {hs : List Hd} {v : V} {vs : List V} : HAt K G σ F H e h v → HAs G σ F H e hs vs → HAs G σ F H e (h :: hs) (v :: vs)
def tHA (m : M (List Hd)) : TA := fun σ H Q => ∃ G F e ds e', R K G F H σ e ∧ m e = .ok (ds, e') ∧ ∀ vs F' H', Nx K G σ F H e F' H' e' → HAs K G σ F' H' e' ds vs → Q vs H'
end
abbrev PF (X : Cx) (e : Expr) (m : M D) : Prop := PE X e (tF X.K m)
abbrev PN (X : Cx) (e : Expr) (m : M Ce) : Prop := PE X e (tN X.K m)
abbrev PH (X : Cx) (e : Expr) (m : M Hd) : Prop := PE X e (tH X.K m)
abbrev PTd (X : Cx) (e : Expr) (m : M Bool) : Prop := PT X e (tT X.K m)
abbrev PWd (X : Cx) (e : Expr) (m : M Bool) : Prop := PW X e (tT X.K m)
abbrev PAd (X : Cx) (es : List Expr) (m : M (List D)) : Prop := PA X es (tA X.K m)
abbrev PAh (X : Cx) (es : List Expr) (m : M (List Hd)) : Prop := PA X es (tHA X.K m)

section
variable {X : Cx} {ex ey ez : Expr} {es : List Expr} {pos : Pos} {K : PySem.W.Frag}
variable {G : Bs} {F H F1 H1 F2 H2 : Hp} {σ : L2.St} {e e1 e2 : En} {v : V} {d : D} {c : Ce} {a : Addr}
theorem NAt.back (n : NAt K H1 F2 H2 c v) (go : Go F H F1 H1 (Lv σ e)) (fh : Ex F H) : NAt K H F2 H2 c v := by
  rcases n with ⟨d, rfl, h⟩ | ⟨hio, a, o, xs, rfl, h1, h2⟩
  · exact .inl ⟨d, rfl, h⟩
  · exact .inr ⟨hio, a, o, xs, rfl, go.old fh h1, h2⟩
theorem R.frz {o : HO} (r : R K G F H σ e) (h1 : F a = none) (h2 : H a = some o) (h3 : ¬ Lv σ e a) (h4 : G.H a = none) : R K G (upd F a o) H σ e := by
  refine ⟨r.go.frz h4 h1 h2, r.ba, fun i c h => ?_, r.sep, r.io, r.len⟩
  obtain ⟨v, e1, e2⟩ := r.at_ i c h
  refine ⟨v, e1, ?_⟩
  rcases e2 with ⟨d, rfl, hd⟩ | ⟨b, u, xs, rfl, q1, q2, q3, q4, q5, q6⟩
  · exact .inl ⟨d, rfl, hd.mono (Evl.Ex.new h1)⟩
  · have hb : b ≠ a := fun z => by
      subst z
      exact h3 ⟨i, c, h, q3.ow, e1⟩
    exact .inr ⟨b, u, xs, rfl, by rw [upd_ne hb]; exact q1, q2, q3, q4.mono (Evl.Ex.new h1), q5, q6⟩
/-- what is new is frozen -/
theorem NAt.frz (n : NAt K H F1 H1 c v) (r : R K G F H σ e) (x : Nx K G σ F H e F1 H1 e1) : ∃ F2, Nx K G σ F H e F2 H1 e1 ∧ Ex F1 F2 ∧ Dn K F2 v c.d := by
  rcases n with ⟨d, rfl, h⟩ | ⟨hio, a, o, xs, rfl, h1, h2, h3, h4, h5⟩
  · exact ⟨F1, x, Evl.Ex.refl _, h⟩
  · obtain ⟨p, q, _⟩ := r.new h1
    refine ⟨upd F1 a o, ⟨x.r.frz h2 h3 (fun z => p (sh_lv x.sh z)) q, x.go.frz h1 h2 h3, x.sh⟩, Evl.Ex.new h2, ?_⟩
    cases c with
    | f d => exact h4.elim
    | l p ds =>
      have h4' : o = .lst xs := h4
      subst h4'
      exact .lst upd_same (h5.mono (Evl.Ex.new h2))
    | k p t ks vs => exact .dic upd_same h4 (h5.mono (Evl.Ex.new h2))

/-! ### from one reading to another -/
def mN (m : M D) : M Ce := fun e => (m e).bind fun p => .ok (.f p.1, p.2)
def mZ (m : M Ce) : M D := fun e => (m e).bind fun p => .ok (p.1.d, p.2)
def mH (m : M Ce) : M Hd := fun e => (m e).bind fun p => .ok (.v p.1, p.2)
theorem bind_ok2 {α β : Type} {m : M α} {f : α × En → Rs β} {e : En} {b : β} (h : (m e).bind f = .ok b) : ∃ a e1, m e = .ok (a, e1) ∧ f (a, e1) = .ok b := by
  obtain ⟨⟨a, e1⟩, h1, h2⟩ := Rs.bind_eq h
  exact ⟨a, e1, h1, h2⟩
theorem pn_f {m : M D} (h : PF X ex m) : PN X ex (mN m) := PEimp h fun σ H Q ⟨G, F, e, c, e', r, hm, q⟩ => by
  obtain ⟨d, e1, h1, h2⟩ := bind_ok2 hm
  cases h2
  exact ⟨G, F, e, d, e1, r, h1, fun v F' H' n hd => q v F' H' n (.inl ⟨d, rfl, hd⟩)⟩
theorem pf_n {m : M Ce} (h : PN X ex m) : PF X ex (mZ m) := PEimp h fun σ H Q ⟨G, F, e, d, e', r, hm, q⟩ => by
  obtain ⟨c, e1, h1, h2⟩ := bind_ok2 hm
  cases h2
  refine ⟨G, F, e, c, e1, r, h1, fun v F' H' n hn => ?_⟩
  obtain ⟨F2, n2, _, hd⟩ := hn.frz r n
  exact q v F2 H' n2 hd
theorem ph_n {m : M Ce} (h : PN X ex m) : PH X ex (mH m) := PEimp h fun σ H Q ⟨G, F, e, d, e', r, hm, q⟩ => by
  obtain ⟨c, e1, h1, h2⟩ := bind_ok2 hm
  cases h2
  exact ⟨G, F, e, c, e1, r, h1, fun v F' H' n hn => q v F' H' n (hn.hat r n)⟩
theorem ph_f {m : M D} (h : PF X ex m) : PH X ex (mH (mN m)) := ph_n (pn_f h)

/-! ### names and constants -/
def mVar (i : Nat) : M D := fun e => match e[i]? with
  | some (some (.f d)) => .ok (d, e)
  | _ => .no
def mSl (i : Nat) : M Hd := fun e => match e[i]? with
  | some (some _) => .ok (.s i, e)
  | _ => .no
theorem mVar_ok {i : Nat} {e e' : En} {d : D} (h : mVar i e = .ok (d, e')) : e[i]? = some (some (.f d)) ∧ e' = e := by
  unfold mVar at h
  split at h
  · rename_i d' q
    cases h
    exact ⟨q, rfl⟩
  · cases h
theorem mSl_ok {i : Nat} {e e' : En} {h' : Hd} (h : mSl i e = .ok (h', e')) : (∃ c, e[i]? = some (some c)) ∧ h' = .s i ∧ e' = e := by
  unfold mSl at h
  split at h
  · rename_i d' q
    cases h
    exact ⟨⟨_, q⟩, rfl, rfl⟩
  · cases h
theorem pf_var {i : Nat} (h : PE X ex (tVar i)) : PF X ex (mVar i) := PEimp h fun σ H Q ⟨G, F, e, d, e', r, hm, q⟩ => by
  obtain ⟨h1, rfl⟩ := mVar_ok hm
  obtain ⟨v, h2, h3⟩ := r.at_ i _ h1
  exact ⟨v, h2, q v F H (Nx.refl r) h3.fz⟩
theorem ph_var {i : Nat} (h : PE X ex (tVar i)) : PH X ex (mSl i) := PEimp h fun σ H Q ⟨G, F, e, d, e', r, hm, q⟩ => by
  obtain ⟨⟨c, h1⟩, rfl, rfl⟩ := mSl_ok hm
  obtain ⟨v, h2, h3⟩ := r.at_ i _ h1
  exact ⟨v, h2, q v F H (Nx.refl r) ⟨h2, c, h1⟩⟩
/-- a constant -/
def mC (d : D) : M D := fun e => .ok (d, e)
@[simp] theorem mC_ap (d : D) (e : En) : mC d e = .ok (d, e) := rfl
theorem pf_c {v : V} {d : D} (h : PE X ex (tC v)) (hd : ∀ F, Dn X.K F v d) : PF X ex (mC d) := PEimp h fun σ H Q ⟨G, F, e, d', e', r, hm, q⟩ => by
  cases hm
  exact q v F H (Nx.refl r) (hd F)
theorem pf_int {i : Int} {j : Nat} : PF X (.Constant (.int i) j pos) (mC (.int i)) := pf_c pe_int fun _ => .int i
theorem pf_bl {b : Bool} {j : Nat} : PF X (.Constant (.bool b) j pos) (mC (.bool b)) := pf_c pe_bl fun _ => .bl b
theorem pf_non {j : Nat} : PF X (.Constant .none j pos) (mC .none) := pf_c pe_non fun _ => .non
theorem pf_str {x : Str} {j : Nat} : PF X (.Constant (.str x) j pos) (mC (.str x)) := pf_c pe_str fun _ => .str x

/-! ### operations on values -/
/-- the operation r on two values does what g says of data -/
def Snd2 (K : PySem.W.Frag) (r : R2) (g : D → D → Rs Ce) : Prop := ∀ (F H : Hp) (x y : V) (dx dy : D) (c : Ce) (Q : VK), Ex F H → Vw K F H dx x → Vw K F H dy y → g dx dy = .ok c →
  (∀ v F' H', Go F H F' H' noA → NAt K H F' H' c v → Q v H') → r x y H Q
def Snd1 (K : PySem.W.Frag) (r : V → Hp → VK → Prop) (g : D → Rs Ce) : Prop := ∀ (F H : Hp) (x : V) (dx : D) (c : Ce) (Q : VK), Ex F H → Vw K F H dx x → g dx = .ok c →
  (∀ v F' H', Go F H F' H' noA → NAt K H F' H' c v → Q v H') → r x H Q
inductive VwA (K : PySem.W.Frag) (F H : Hp) : List D → List V → Prop where
  | nil : VwA K F H [] []
  | cons {d : D} {ds : List D} {v : V} {vs : List V} : Vw K F H d v → VwA K F H ds vs → VwA K F H (d :: ds) (v :: vs)
def SndL (K : PySem.W.Frag) (r : List V → Hp → VK → Prop) (g : List D → Rs Ce) : Prop := ∀ (F H : Hp) (xs : List V) (ds : List D) (c : Ce) (Q : VK), Ex F H → VwA K F H ds xs → g ds = .ok c →
  (∀ v F' H', Go F H F' H' noA → NAt K H F' H' c v → Q v H') → r xs H Q
def m2 (g : D → D → Rs Ce) (ma mb : M Hd) : M Ce := fun e => (ma e).bind fun p => (mb p.2).bind fun q => (p.1.get q.2).bind fun x => (q.1.get q.2).bind fun y => (g x y).bind fun c => .ok (c, q.2)
def m1 (g : D → Rs Ce) (ma : M Hd) : M Ce := fun e => (ma e).bind fun p => (p.1.get p.2).bind fun x => (g x).bind fun c => .ok (c, p.2)
def gets : List Hd → En → Rs (List D)
  | [], _ => .ok []
  | h :: hs, e => (h.get e).bind fun d => (gets hs e).bind fun ds => .ok (d :: ds)
def mL (g : List D → Rs Ce) (ma : M (List Hd)) : M Ce := fun e => (ma e).bind fun p => (gets p.1 p.2).bind fun xs => (g xs).bind fun c => .ok (c, p.2)
/-- the shape that all two-place rules share -/
theorem op2 {r : R2} {g : D → D → Rs Ce} (hs : Snd2 K r g) {ma mb : M Hd} {σ : L2.St} {H : Hp} {Q : VK} (h : tN K (m2 g ma mb) σ H Q) : tOp r (tH K ma) (tH K mb) σ H Q := by
  obtain ⟨G, F, e, c, e', rr, hm, q⟩ := h
  obtain ⟨x, e1, h1, hm⟩ := bind_ok2 hm
  obtain ⟨y, e2, h2, hm⟩ := bind_ok2 hm
  obtain ⟨dx, h3, hm⟩ := Rs.bind_eq hm
  obtain ⟨dy, h4, hm⟩ := Rs.bind_eq hm
  obtain ⟨c', h5, hm⟩ := Rs.bind_eq hm
  cases hm
  refine ⟨G, F, e, x, e1, rr, h1, fun vx F1 H1 n1 hx => ⟨G, F1, e1, y, e2, n1.r, h2, fun vy F2 H2 n2 hy => ?_⟩⟩
  refine hs F2 H2 vx vy dx dy c Q n2.r.fh ((hx.nx n2).vw n2.r h3) (hy.vw n2.r h4) h5 fun v F' H' go nat => ?_
  have n12 := n1.trans n2
  exact q v F' H' (n12.trans (n2.r.step go)) (nat.back n12.go rr.fh)
theorem op1 {r : V → Hp → VK → Prop} {g : D → Rs Ce} (hs : Snd1 K r g) {ma : M Hd} {σ : L2.St} {H : Hp} {Q : VK} (h : tN K (m1 g ma) σ H Q) : (tH K ma) σ H fun x H1 => r x H1 Q := by
  obtain ⟨G, F, e, c, e', rr, hm, q⟩ := h
  obtain ⟨x, e1, h1, hm⟩ := bind_ok2 hm
  obtain ⟨dx, h3, hm⟩ := Rs.bind_eq hm
  obtain ⟨c', h5, hm⟩ := Rs.bind_eq hm
  cases hm
  refine ⟨G, F, e, x, _, rr, h1, fun vx F1 H1 n1 hx => ?_⟩
  refine hs F1 H1 vx dx c Q n1.r.fh (hx.vw n1.r h3) h5 fun v F' H' go nat => ?_
  exact q v F' H' (n1.trans (n1.r.step go)) (nat.back n1.go rr.fh)
theorem HAs.vw {G : Bs} {σ : L2.St} {F H : Hp} {e : En} (r : R K G F H σ e) : ∀ {hs : List Hd} {vs : List V} {ds : List D}, HAs K G σ F H e hs vs → gets hs e = .ok ds → VwA K F H ds vs
  | _, _, _, .nil, g => by cases g; exact .nil
  | _, _, _, .cons h t, g => by
    obtain ⟨d, h1, g⟩ := Rs.bind_eq g
    obtain ⟨ds, h2, g⟩ := Rs.bind_eq g
    cases g
    exact .cons (h.vw r h1) (HAs.vw r t h2)
theorem HAs.nx {G : Bs} {σ : L2.St} {F H F1 H1 : Hp} {e e1 : En} (n : Nx K G σ F H e F1 H1 e1) : ∀ {hs : List Hd} {vs : List V}, HAs K G σ F H e hs vs → HAs K G σ F1 H1 e1 hs vs
  | _, _, .nil => .nil
  | _, _, .cons h t => .cons (h.nx n) (HAs.nx n t)
theorem opL {r : List V → Hp → VK → Prop} {g : List D → Rs Ce} (hs : SndL K r g) {ma : M (List Hd)} {σ : L2.St} {H : Hp} {Q : VK} (h : tN K (mL g ma) σ H Q) : tCB r (tHA K ma) σ H Q := by
  obtain ⟨G, F, e, c, e', rr, hm, q⟩ := h
  obtain ⟨x, e1, h1, hm⟩ := bind_ok2 hm
  obtain ⟨dx, h3, hm⟩ := Rs.bind_eq hm
  obtain ⟨c', h5, hm⟩ := Rs.bind_eq hm
  cases hm
  refine ⟨G, F, e, x, _, rr, h1, fun vx F1 H1 n1 hx => ?_⟩
  refine hs F1 H1 vx dx c Q n1.r.fh (hx.vw n1.r h3) h5 fun v F' H' go nat => ?_
  exact q v F' H' (n1.trans (n1.r.step go)) (nat.back n1.go rr.fh)

/-! ### arguments -/
def aNil {α : Type} : M (List α) := fun e => .ok ([], e)
def aCons {α : Type} (m : M α) (ms : M (List α)) : M (List α) := fun e => (m e).bind fun p => (ms p.2).bind fun q => .ok (p.1 :: q.1, q.2)
theorem pad_nil : PAd X [] aNil := PAimp pa_nil fun σ H Q ⟨G, F, e, d, e', r, hm, q⟩ => by
  cases hm
  exact q [] F H (Nx.refl r) .nil
theorem pad_cons {m : M D} {ms : M (List D)} (ha : PF X ex m) (hr : PAd X es ms) (hs : starEach (ex :: es) X.env = (false, eval ex X.env) :: starEach es X.env := by rfl) : PAd X (ex :: es) (aCons m ms) := PAimp (pa_cons ha hr hs) fun σ H Q ⟨G, F, e, d, e', r, hm, q⟩ => by
  obtain ⟨x, e1, h1, hm⟩ := bind_ok2 hm
  obtain ⟨y, e2, h2, hm⟩ := bind_ok2 hm
  cases hm
  exact ⟨G, F, e, x, e1, r, h1, fun v F1 H1 n1 hd => ⟨G, F1, e1, y, e2, n1.r, h2, fun vs F2 H2 n2 hds => q (v :: vs) F2 H2 (n1.trans n2) (.cons (n2.dn hd) hds)⟩⟩
theorem pah_nil : PAh X [] aNil := PAimp pa_nil fun σ H Q ⟨G, F, e, d, e', r, hm, q⟩ => by
  cases hm
  exact q [] F H (Nx.refl r) .nil
theorem pah_cons {m : M Hd} {ms : M (List Hd)} (ha : PH X ex m) (hr : PAh X es ms) (hs : starEach (ex :: es) X.env = (false, eval ex X.env) :: starEach es X.env := by rfl) : PAh X (ex :: es) (aCons m ms) := PAimp (pa_cons ha hr hs) fun σ H Q ⟨G, F, e, d, e', r, hm, q⟩ => by
  obtain ⟨x, e1, h1, hm⟩ := bind_ok2 hm
  obtain ⟨y, e2, h2, hm⟩ := bind_ok2 hm
  cases hm
  exact ⟨G, F, e, x, e1, r, h1, fun v F1 H1 n1 hd => ⟨G, F1, e1, y, e2, n1.r, h2, fun vs F2 H2 n2 hds => q (v :: vs) F2 H2 (n1.trans n2) (.cons (hd.nx n2) hds)⟩⟩

/-! ### the rules -/
theorem pn_op {op : Operator} {r : R2} {g : D → D → Rs Ce} {ma mb : M Hd} (ho : OpR X (binaryOp op) r) (hs : Snd2 X.K r g) (ha : PH X ex ma) (hb : PH X ey mb) : PN X (.BinOp ex op ey pos) (m2 g ma mb) := PEimp (pe_op ho ha hb) fun σ H Q h => op2 hs h
theorem pn_cmp {op : CmpOp} {r : R2} {g : D → D → Rs Ce} {ma mb : M Hd} (ho : OpR X (compareOp op) r) (hs : Snd2 X.K r g) (hm : behindInMarks op ey = false) (ha : PH X ex ma) (hb : PH X ey mb) : PN X (.Compare ex [op] [ey] pos) (m2 g ma mb) := PEimp (pe_cmpR ho ha hb hm) fun σ H Q h => op2 hs h
def mBool (m : M Ce) : M Bool := fun e => (m e).bind fun p => match p.1 with
  | .f (.bool b) => .ok (b, p.2)
  | _ => .no
theorem mBool_ok {m : M Ce} {e e' : En} {b : Bool} (h : mBool m e = .ok (b, e')) : m e = .ok (.f (.bool b), e') := by
  obtain ⟨c, e1, h1, h2⟩ := bind_ok2 h
  simp only at h2
  split at h2
  · cases h2
    exact h1
  · cases h2
theorem bool_test {m : M Ce} {σ : L2.St} {H : Hp} {Q : Bool → Hp → Prop} (h : tT K (mBool m) σ H Q) : tN K m σ H fun x H' => ∃ k, x = .bl k ∧ Q k H' := by
  obtain ⟨G, F, e, b, e', r, hm, q⟩ := h
  exact ⟨G, F, e, _, e', r, mBool_ok hm, fun v F' H' n hn => ⟨b, hn.fz.bool_inv, q F' H' n⟩⟩
theorem ptd_cmp {op : CmpOp} {r : R2} {g : D → D → Rs Ce} {ma mb : M Hd} (ho : OpR X (compareOp op) r) (hs : Snd2 X.K r g) (hm : behindInMarks op ey = false) (ha : PH X ex ma) (hb : PH X ey mb) : PTd X (.Compare ex [op] [ey] pos) (mBool (m2 g ma mb)) :=
  PTimp (pt_cmpR ho ha hb hm) fun σ H Q h => op2 hs (bool_test h)
theorem pn_un {op : UnaryOp} {r : V → Hp → VK → Prop} {g : D → Rs Ce} {ma : M Hd} (ho : UnR X (unaryOp op) r) (hs : Snd1 X.K r g) (ha : PH X ex ma) : PN X (.UnaryOp op ex pos) (m1 g ma) := PEimp (pe_un ho ha) fun σ H Q h => op1 hs h
theorem pn_ix {r : R2} {g : D → D → Rs Ce} {ma mb : M Hd} (ho : IxR X r) (hs : Snd2 X.K r g) (ha : PH X ex ma) (hb : PH X ey mb) (hp : PlainIx ey) : PN X (.Subscript ex ey pos) (m2 g ma mb) := PEimp (pe_ix ho ha hb hp) fun σ H Q h => op2 hs h
theorem pn_bi {x : Str} {p : Pos} {id : String} {r : List V → Hp → VK → Prop} {g : List D → Rs Ce} {ma : M (List Hd)} (hc : CallR X (.builtin id) r) (hs : SndL X.K r g) (hg : Gl X x) (hm : X.mg x = none) (hv : bootBuiltins x = some (.builtin id)) (ha : PAh X (ex :: es) ma)
    (hn : x ≠ "__name__" := by decide) (hdb : (x == ("__debug__" : Str)) = false := by decide) (he : starEach (ex :: es) X.env = (false, eval ex X.env) :: starEach es X.env := by rfl) (hpl : (backTo pos (starEach es X.env)).any (·.1) = false := by rfl) :
    PN X (.Call (.Name x p) (ex :: es) [] pos) (mL g ma) := PEimp (pe_callB hc hg hm hv ha hn hdb he hpl) fun σ H Q h => opL hs h
theorem pn_ty {x : Str} {p : Pos} {T : String} {r : List V → Hp → VK → Prop} {g : List D → Rs Ce} {ma : M (List Hd)} (hc : CallR X (.type T) r) (hs : SndL X.K r g) (hg : Gl X x) (hm : X.mg x = none) (hv : bootBuiltins x = some (.type T)) (ha : PAh X (ex :: es) ma)
    (hn : x ≠ "__name__" := by decide) (hdb : (x == ("__debug__" : Str)) = false := by decide) (he : starEach (ex :: es) X.env = (false, eval ex X.env) :: starEach es X.env := by rfl) (hpl : (backTo pos (starEach es X.env)).any (·.1) = false := by rfl) :
    PN X (.Call (.Name x p) (ex :: es) [] pos) (mL g ma) := PEimp (pe_callTy hc hg hm hv ha hn hdb he hpl) fun σ H Q h => opL hs h
/-- a module's name for a built-in function (from math import gcd) -/
theorem pn_fun {x : Str} {p : Pos} {id : String} {r : List V → Hp → VK → Prop} {g : List D → Rs Ce} {ma : M (List Hd)} (hc : CallR X (.builtin id) r) (hs : SndL X.K r g) (hg : Gl X x) (hm : X.mg x = some (.builtin id)) (ha : PAh X (ex :: es) ma)
    (hdb : (x == ("__debug__" : Str)) = false := by decide) (he : starEach (ex :: es) X.env = (false, eval ex X.env) :: starEach es X.env := by rfl) (hpl : (backTo pos (starEach es X.env)).any (·.1) = false := by rfl) :
    PN X (.Call (.Name x p) (ex :: es) [] pos) (mL g ma) := PEimp (pe_callBfun hc hg hm ha hdb he hpl) fun σ H Q h => opL hs h
def mTup (ma : M (List D)) : M D := fun e => (ma e).bind fun p => if p.1.length ≤ sizeLine then .ok (.tuple p.1, p.2) else .no
def mLst (ma : M (List D)) : M Ce := fun e => (ma e).bind fun p => if p.1.length ≤ sizeLine then .ok (.l false p.1, p.2) else .no
theorem ite_ok {α : Type} {c : Prop} [Decidable c] {x : Rs α} {a : α} (h : (if c then x else .no) = .ok a) : c ∧ x = .ok a := by
  by_cases hc : c
  · rw [if_pos hc] at h; exact ⟨hc, h⟩
  · rw [if_neg hc] at h; cases h
theorem pf_tup {k : Nat} {ma : M (List D)} (ha : PAd X es ma) : PF X (.Tuple es k pos) (mTup ma) := PEimp (pe_tup ha) fun σ H Q ⟨G, F, e, d, e', r, hm, q⟩ => by
  obtain ⟨ds, e1, h1, hm⟩ := bind_ok2 hm
  obtain ⟨hz, hm⟩ := ite_ok hm
  cases hm
  refine ⟨G, F, e, ds, _, r, h1, fun vs F1 H1 n hd => ⟨by rw [hd.len]; exact hz, fun p hp => ?_⟩⟩
  have go : Go F1 H1 (upd F1 p (.tup vs)) (upd H1 p (.tup vs)) noA := Go.newF n.r.fh hp
  exact q _ _ _ (n.trans (n.r.step go)) (.tup upd_same (hd.mono go.ff))
theorem pn_lst {ma : M (List D)} (ha : PAd X es ma) : PN X (.List es pos) (mLst ma) := PEimp (pe_lst ha) fun σ H Q ⟨G, F, e, d, e', r, hm, q⟩ => by
  obtain ⟨ds, e1, h1, hm⟩ := bind_ok2 hm
  obtain ⟨hz, hm⟩ := ite_ok hm
  cases hm
  refine ⟨G, F, e, ds, _, r, h1, fun vs F1 H1 n hd => ⟨by rw [hd.len]; exact hz, fun p hp => ?_⟩⟩
  have go : Go F1 H1 F1 (upd H1 p (.lst vs)) noA := Go.newO n.r.fh hp
  exact q _ _ _ (n.trans (n.r.step go)) (.inr ⟨rfl, p, _, vs, rfl, n.go.old r.fh hp, ex_none n.r.fh hp, upd_same, rfl, hd⟩)
def mIf {α : Type} (t : M Bool) (a b : M α) : M α := fun e => (t e).bind fun p => if p.1 = true then a p.2 else b p.2
theorem pn_if {t : M Bool} {ma mb : M Ce} (ht : PTd X ez t) (ha : PN X ex ma) (hb : PN X ey mb) : PN X (.IfExp ez ex ey pos) (mIf t ma mb) := PEimp (pe_ifExp ht ha hb) fun σ H Q ⟨G, F, e, c, e', r, hm, q⟩ => by
  obtain ⟨b, e1, h1, hm⟩ := bind_ok2 hm
  refine ⟨G, F, e, b, e1, r, h1, fun F1 H1 n => ?_⟩
  cases b with
  | true => exact ⟨G, F1, e1, c, e', n.r, hm, fun v F' H' n' hn => q v F' H' (n.trans n') (hn.back n.go r.fh)⟩
  | false => exact ⟨G, F1, e1, c, e', n.r, hm, fun v F' H' n' hn => q v F' H' (n.trans n') (hn.back n.go r.fh)⟩
/-! tests -/
def mAnd (a b : M Bool) : M Bool := fun e => (a e).bind fun p => if p.1 = true then b p.2 else .ok (false, p.2)
def mOr (a b : M Bool) : M Bool := fun e => (a e).bind fun p => if p.1 = true then .ok (true, p.2) else b p.2
def mNot (a : M Bool) : M Bool := fun e => (a e).bind fun p => .ok (!p.1, p.2)
theorem pwd_and1 {a : M Bool} (h : PTd X ex a) : PWd X (.BoolOp .And [ex] pos) a := pw_and1 h
theorem pwd_or1 {a : M Bool} (h : PTd X ex a) : PWd X (.BoolOp .Or [ex] pos) a := pw_or1 h
theorem pwd_and {a b : M Bool} (h : PTd X ex a) (hb : PWd X (.BoolOp .And (ey :: es) pos) b) : PWd X (.BoolOp .And (ex :: ey :: es) pos) (mAnd a b) := PWimp (pw_and h hb) fun σ H Q ⟨G, F, e, c, e', r, hm, q⟩ => by
  obtain ⟨k, e1, h1, hm⟩ := bind_ok2 hm
  refine ⟨G, F, e, k, e1, r, h1, fun F1 H1 n => ?_⟩
  cases k with
  | true => exact ⟨G, F1, e1, c, e', n.r, hm, fun F' H' n' => q F' H' (n.trans n')⟩
  | false =>
    cases hm
    exact q F1 H1 n
theorem pwd_or {a b : M Bool} (h : PTd X ex a) (hb : PWd X (.BoolOp .Or (ey :: es) pos) b) : PWd X (.BoolOp .Or (ex :: ey :: es) pos) (mOr a b) := PWimp (pw_or h hb) fun σ H Q ⟨G, F, e, c, e', r, hm, q⟩ => by
  obtain ⟨k, e1, h1, hm⟩ := bind_ok2 hm
  refine ⟨G, F, e, k, e1, r, h1, fun F1 H1 n => ?_⟩
  cases k with
  | true =>
    cases hm
    exact q F1 H1 n
  | false => exact ⟨G, F1, e1, c, e', n.r, hm, fun F' H' n' => q F' H' (n.trans n')⟩
theorem ptd_w {a : M Bool} (h : PWd X ex a) : PTd X ex a := h.pt
theorem ptd_not {a : M Bool} (h : PTd X ex a) : PTd X (.UnaryOp .Not ex pos) (mNot a) := PTimp (pt_not h) fun σ H Q ⟨G, F, e, c, e', r, hm, q⟩ => by
  obtain ⟨k, e1, h1, hm⟩ := bind_ok2 hm
  cases hm
  exact ⟨G, F, e, k, _, r, h1, fun F1 H1 n => q F1 H1 n⟩
/-! and, or, not as values: bools (the last of and, or anything) -/
def mAndV (a b : M Ce) : M Ce := fun e => (a e).bind fun p => match p.1 with
  | .f (.bool true) => b p.2
  | .f (.bool false) => .ok (.f (.bool false), p.2)
  | _ => .no
def mOrV (a b : M Ce) : M Ce := fun e => (a e).bind fun p => match p.1 with
  | .f (.bool true) => .ok (.f (.bool true), p.2)
  | .f (.bool false) => b p.2
  | _ => .no
def mNotV (a : M Ce) : M D := fun e => (a e).bind fun p => match p.1 with
  | .f (.bool b) => .ok (.bool (!b), p.2)
  | _ => .no
theorem pn_one {op : BoolOp} {a : M Ce} (h : PN X ex a) : PN X (.BoolOp op [ex] pos) a := pe_one h
theorem pn_and {a b : M Ce} (h : PN X ex a) (hb : PN X (.BoolOp .And (ey :: es) pos) b) : PN X (.BoolOp .And (ex :: ey :: es) pos) (mAndV a b) := PEimp (pe_and h hb) fun σ H Q ⟨G, F, e, c, e', r, hm, q⟩ => by
  obtain ⟨k, e1, h1, hm⟩ := bind_ok2 hm
  refine ⟨G, F, e, k, e1, r, h1, fun v F1 H1 n hn => ?_⟩
  simp only at hm
  split at hm
  · exact ⟨true, hn.fz.bool_inv, ⟨G, F1, e1, c, e', n.r, hm, fun v F' H' n' hn' => q v F' H' (n.trans n') (hn'.back n.go r.fh)⟩⟩
  · cases hm
    exact ⟨false, hn.fz.bool_inv, q _ F1 H1 n (.inl ⟨_, rfl, .bl _⟩)⟩
  · cases hm
theorem pn_or {a b : M Ce} (h : PN X ex a) (hb : PN X (.BoolOp .Or (ey :: es) pos) b) : PN X (.BoolOp .Or (ex :: ey :: es) pos) (mOrV a b) := PEimp (pe_or h hb) fun σ H Q ⟨G, F, e, c, e', r, hm, q⟩ => by
  obtain ⟨k, e1, h1, hm⟩ := bind_ok2 hm
  refine ⟨G, F, e, k, e1, r, h1, fun v F1 H1 n hn => ?_⟩
  simp only at hm
  split at hm
  · cases hm
    exact ⟨true, hn.fz.bool_inv, q _ F1 H1 n (.inl ⟨_, rfl, .bl _⟩)⟩
  · exact ⟨false, hn.fz.bool_inv, ⟨G, F1, e1, c, e', n.r, hm, fun v F' H' n' hn' => q v F' H' (n.trans n') (hn'.back n.go r.fh)⟩⟩
  · cases hm
theorem pf_not {a : M Ce} (h : PN X ex a) : PF X (.UnaryOp .Not ex pos) (mNotV a) := PEimp (pe_not h) fun σ H Q ⟨G, F, e, c, e', r, hm, q⟩ => by
  obtain ⟨k, e1, h1, hm⟩ := bind_ok2 hm
  simp only at hm
  split at hm
  · cases hm
    exact ⟨G, F, e, _, _, r, h1, fun v F1 H1 n hn => ⟨_, hn.fz.bool_inv, q _ F1 H1 n (.bl _)⟩⟩
  · cases hm
/-! truth -/
def D.truth : D → Rs Bool
  | .none => .ok false
  | .bool b => .ok b
  | .int i => .ok (i != 0)
  | .str s => if s.length ≤ sizeLine then .ok ((s.length : Int) != 0) else .no
  | .list ds => .ok (!ds.isEmpty)
  | .ro ds => .ok (!ds.isEmpty)
  | .tuple ds => .ok (!ds.isEmpty)
  | .dict _ _ _ => .no
theorem DnA.emp {vs : List V} {ds : List D} (h : DnA K F vs ds) : vs.isEmpty = ds.isEmpty := by cases h <;> rfl
theorem Vw.tru {b : Bool} {dx : D} {x : V} (h : Vw K F H dx x) (fh : Ex F H) (e : dx.truth = .ok b) : TruV K x H b := by
  cases dx with
  | none => rw [h.none]; cases e; rfl
  | bool b => rw [h.bool]; cases e; rfl
  | int i => rw [h.int]; cases e; rfl
  | str s =>
    rw [h.str]
    obtain ⟨h1, h2⟩ := ite_ok e
    cases h2
    exact ⟨h1, rfl⟩
  | list ds =>
    obtain ⟨a, xs, rfl, h1, h2⟩ := h.list fh
    cases e
    exact .inl ⟨xs, SqL.of h1, by rw [h2.emp]⟩
  | ro ds =>
    obtain ⟨a, xs, rfl, h1, h2⟩ := h.ro fh
    cases e
    exact .inl ⟨xs, h1, by rw [h2.emp]⟩
  | tuple ds =>
    obtain ⟨a, xs, rfl, h1, h2, _⟩ := h.tuple fh
    cases e
    exact .inr (.inl ⟨xs, h1, by rw [h2.emp]⟩)
  | dict ks vs => cases e
def mTru (m : M Hd) : M Bool := fun e => (m e).bind fun p => (p.1.get p.2).bind fun d => d.truth.bind fun b => .ok (b, p.2)
theorem ptd_tru {m : M Hd} (h : PH X ex m) (he : ∀ whole, isTrue ex X.env whole = (do let v ← whole; standAt ex.pos; holding [v] (truthy v)) := by intro _; rfl) : PTd X ex (mTru m) := PTimp (pt_truth h he) fun σ H Q ⟨G, F, e, c, e', r, hm, q⟩ => by
  obtain ⟨k, e1, h1, hm⟩ := bind_ok2 hm
  obtain ⟨d, h2, hm⟩ := Rs.bind_eq hm
  obtain ⟨b, h3, hm⟩ := Rs.bind_eq hm
  cases hm
  exact ⟨G, F, e, k, _, r, h1, fun v F1 H1 n hn => ⟨_, (hn.vw n.r h2).tru n.r.fh h3, q F1 H1 n⟩⟩
/-! chains -/
def mChain (g g' : D → D → Rs Ce) (ma mb mc : M Hd) : M Ce := fun e => (ma e).bind fun p => (mb p.2).bind fun q => (p.1.get q.2).bind fun x => (q.1.get q.2).bind fun y => (g x y).bind fun c => match c with
  | .f (.bool true) => (mc q.2).bind fun z => (q.1.get z.2).bind fun y' => (z.1.get z.2).bind fun w => (g' y' w).bind fun c' => .ok (c', z.2)
  | .f (.bool false) => .ok (.f (.bool false), q.2)
  | _ => .no
theorem opC {r r' : R2} {g g' : D → D → Rs Ce} (hs : Snd2 K r g) (hs' : Snd2 K r' g') {ma mb mc : M Hd} {σ : L2.St} {H : Hp} {Q : VK} (h : tN K (mChain g g' ma mb mc) σ H Q) : tChain r r' (tH K ma) (tH K mb) (tH K mc) σ H Q := by
  obtain ⟨G, F, e, c, e', rr, hm, q⟩ := h
  obtain ⟨x, e1, h1, hm⟩ := bind_ok2 hm
  obtain ⟨y, e2, h2, hm⟩ := bind_ok2 hm
  obtain ⟨dx, h3, hm⟩ := Rs.bind_eq hm
  obtain ⟨dy, h4, hm⟩ := Rs.bind_eq hm
  obtain ⟨c', h5, hm⟩ := Rs.bind_eq hm
  refine ⟨G, F, e, x, e1, rr, h1, fun vx F1 H1 n1 hx => ⟨G, F1, e1, y, e2, n1.r, h2, fun vy F2 H2 n2 hy => ?_⟩⟩
  refine hs F2 H2 vx vy dx dy c' _ n2.r.fh ((hx.nx n2).vw n2.r h3) (hy.vw n2.r h4) h5 fun v F' H' go nat => ?_
  have n12 := n1.trans n2
  have n3 := n2.r.step go
  simp only at hm
  split at hm
  · obtain ⟨z, e3, h6, hm⟩ := bind_ok2 hm
    obtain ⟨dy', h7, hm⟩ := Rs.bind_eq hm
    obtain ⟨dz, h8, hm⟩ := Rs.bind_eq hm
    obtain ⟨c2, h9, hm⟩ := Rs.bind_eq hm
    cases hm
    refine ⟨true, nat.fz.bool_inv, ⟨G, F', e2, z, e3, n3.r, h6, fun vz F4 H4 n4 hz => ?_⟩⟩
    refine hs' F4 H4 vy vz dy' dz c Q n4.r.fh (((hy.nx n3).nx n4).vw n4.r h7) (hz.vw n4.r h8) h9 fun v2 F5 H5 go5 nat5 => ?_
    have nn := (n12.trans n3).trans n4
    exact q v2 F5 H5 (nn.trans (n4.r.step go5)) (nat5.back nn.go rr.fh)
  · cases hm
    exact ⟨false, nat.fz.bool_inv, q _ F' H' (n12.trans n3) (.inl ⟨_, rfl, .bl _⟩)⟩
  · cases hm
theorem pn_chain {op op' : CmpOp} {r r' : R2} {g g' : D → D → Rs Ce} {ma mb mc : M Hd} (ho : OpR X (compareOp op) r) (hs : Snd2 X.K r g) (ho' : OpR X (compareOp op') r') (hs' : Snd2 X.K r' g') (ha : PH X ex ma) (hb : PH X ey mb) (hc : PH X ez mc)
    (hm : lastMarks [op, op'] [ey, ez] = false := by with_unfolding_all rfl) : PN X (.Compare ex [op, op'] [ey, ez] pos) (mChain g g' ma mb mc) := PEimp (pe_chain ho ho' ha hb hc hm) fun σ H Q h => opC hs hs' h
theorem ptd_chain {op op' : CmpOp} {r r' : R2} {g g' : D → D → Rs Ce} {ma mb mc : M Hd} (ho : OpR X (compareOp op) r) (hs : Snd2 X.K r g) (ho' : OpR X (compareOp op') r') (hs' : Snd2 X.K r' g') (ha : PH X ex ma) (hb : PH X ey mb) (hc : PH X ez mc)
    (hm : lastMarks [op, op'] [ey, ez] = false := by with_unfolding_all rfl) : PTd X (.Compare ex [op, op'] [ey, ez] pos) (mBool (mChain g g' ma mb mc)) := PTimp (pt_chain ho ho' ha hb hc hm) fun σ H Q h => opC hs hs' (bool_test h)
end
end DL

namespace DL
open PySem L2 PyProof.Rows

/-! ### equality of data -/
mutual
def D.toPy : D → PyData
  | .none => .none
  | .bool b => .bool b
  | .int i => .int i
  | .str s => .str s
  | .list ds => .list (D.toPyA ds)
  | .ro ds => .list (D.toPyA ds)
  | .tuple ds => .tuple (D.toPyA ds)
  | .dict _ _ _ => .dict []
def D.toPyA : List D → List PyData
  | [] => []
  | d :: ds => D.toPy d :: D.toPyA ds
end
mutual
/-- data without dicts, its texts of true signs, nested so deep at most -/
def D.pl : Nat → D → Bool
  | _, .none => true
  | _, .bool _ => true
  | _, .int _ => true
  | _, .str s => s.cps.all (· < 0x110000)
  | n, .list ds => D.plA n ds
  | n, .ro ds => D.plA n ds
  | n, .tuple ds => D.plA n ds
  | _, .dict _ _ _ => false
def D.plA : Nat → List D → Bool
  | _, [] => true
  | n, d :: ds => (match n with
    | 0 => false
    | n + 1 => D.pl n d) && D.plA n ds
end
mutual
def D.eqb : D → D → Bool
  | .none, .none => true
  | .bool a, .bool b => a == b
  | .bool a, .int j => (if a then 1 else 0) == j
  | .int i, .bool b => i == (if b then 1 else 0)
  | .int i, .int j => i == j
  | .str x, .str y => x == y
  | .list xs, .list ys => D.eqbA xs ys
  | .list xs, .ro ys => D.eqbA xs ys
  | .ro xs, .list ys => D.eqbA xs ys
  | .ro xs, .ro ys => D.eqbA xs ys
  | .tuple xs, .tuple ys => D.eqbA xs ys
  | _, _ => false
def D.eqbA : List D → List D → Bool
  | [], [] => true
  | x :: xs, y :: ys => D.eqb x y && D.eqbA xs ys
  | _, _ => false
end
section
variable {K : PySem.W.Frag} {F H : Hp}
mutual
theorem Dn.dp : ∀ {v : V} {d : D} {n : Nat}, Dn K F v d → d.pl n = true → Dp K F v d.toPy
  | _, _, _, .non, _ => by unfold D.toPy; exact .non
  | _, _, _, .bl b, _ => by unfold D.toPy; exact .bl b
  | _, _, _, .int i, _ => by unfold D.toPy; exact .int i
  | _, _, _, .str x, _ => by unfold D.toPy; exact .str x
  | _, _, _, .lst h ha, p => by unfold D.toPy; unfold D.pl at p; exact .lst (SqL.of h) (DnA.dp ha p)
  | _, _, _, .ro h ha, p => by unfold D.toPy; unfold D.pl at p; exact .lst h (DnA.dp ha p)
  | _, _, _, .tup h ha, p => by unfold D.toPy; unfold D.pl at p; exact .tup (SqT.of h) (DnA.dp ha p)
  | _, _, _, .dic _ _ _, p => by unfold D.pl at p; cases p
theorem DnA.dp : ∀ {vs : List V} {ds : List D} {n : Nat}, DnA K F vs ds → D.plA n ds = true → DpAll K F vs (D.toPyA ds)
  | _, _, _, .nil, _ => by unfold D.toPyA; exact .nil
  | _, _, 0, .cons h ha, p => by unfold D.plA at p; simp at p
  | _, _, n + 1, .cons h ha, p => by
    unfold D.plA at p
    unfold D.toPyA
    have p' := Bool.and_eq_true_iff.mp p
    exact .cons (Dn.dp h p'.1) (DnA.dp ha p'.2)
end
mutual
theorem dp_mono (e : Ex F H) : ∀ {v : V} {d : PyData}, Dp K F v d → Dp K H v d
  | _, _, .non => .non
  | _, _, .bl b => .bl b
  | _, _, .int i => .int i
  | _, _, .str x => .str x
  | _, _, .lst h ha => .lst (Evl.ex_l e h) (dpA_mono e ha)
  | _, _, .tup h ha => .tup (Evl.ex_t e h) (dpA_mono e ha)
theorem dpA_mono (e : Ex F H) : ∀ {vs : List V} {ds : List PyData}, DpAll K F vs ds → DpAll K H vs ds
  | _, _, .nil => .nil
  | _, _, .cons h ha => .cons (dp_mono e h) (dpA_mono e ha)
end
mutual
theorem D.pl_ok : ∀ {d : D} {n : Nat}, d.pl n = true → d.toPy.canLay0 = true ∧ d.toPy.depth ≤ n + 1
  | .none, _, _ => by simp [D.toPy, PyData.canLay0, PyData.depth]
  | .bool _, _, _ => by simp [D.toPy, PyData.canLay0, PyData.depth]
  | .int _, _, _ => by simp [D.toPy, PyData.canLay0, PyData.depth]
  | .str s, _, p => by
    unfold D.pl at p
    unfold D.toPy PyData.canLay0 PyData.depth
    exact ⟨p, Nat.zero_le _⟩
  | .list ds, n, p => by
    unfold D.pl at p
    have := D.plA_ok p
    simp only [D.toPy, PyData.canLay0, PyData.depth]
    exact ⟨this.1, by have := this.2; omega⟩
  | .ro ds, n, p => by
    unfold D.pl at p
    have := D.plA_ok p
    simp only [D.toPy, PyData.canLay0, PyData.depth]
    exact ⟨this.1, by have := this.2; omega⟩
  | .tuple ds, n, p => by
    unfold D.pl at p
    have := D.plA_ok p
    simp only [D.toPy, PyData.canLay0, PyData.depth]
    exact ⟨this.1, by have := this.2; omega⟩
  | .dict _ _ _, _, p => by unfold D.pl at p; cases p
theorem D.plA_ok : ∀ {ds : List D} {n : Nat}, D.plA n ds = true → PyData.canLayAll0 (D.toPyA ds) = true ∧ PyData.depthAll (D.toPyA ds) ≤ n
  | [], n, _ => by simp [D.toPyA, PyData.canLayAll0, PyData.depthAll]
  | d :: ds, 0, p => by unfold D.plA at p; simp at p
  | d :: ds, n + 1, p => by
    unfold D.plA at p
    have p' := Bool.and_eq_true_iff.mp p
    have h1 := D.pl_ok p'.1
    have h2 := D.plA_ok p'.2
    simp only [D.toPyA, PyData.canLayAll0, PyData.depthAll, h1.1, h2.1, Bool.and_self, true_and]
    omega
end
mutual
theorem D.eqb_py : ∀ {x y : D} {n m : Nat}, x.pl n = true → y.pl m = true → PyData.eqv x.toPy y.toPy = D.eqb x y
  | x, y, n, m, hx, hy => by
    cases x <;> cases y <;> first
      | (unfold D.pl at hx; exact absurd hx (by decide))
      | (unfold D.pl at hy; exact absurd hy (by decide))
      | (simp only [D.toPy, PyData.eqv, D.eqb]; done)
      | (simp only [D.toPy, PyData.eqv, D.eqb]; unfold D.pl at hx hy; exact D.eqb_pyA hx hy)
theorem D.eqb_pyA : ∀ {xs ys : List D} {n m : Nat}, D.plA n xs = true → D.plA m ys = true → PyData.eqvAll (D.toPyA xs) (D.toPyA ys) = D.eqbA xs ys
  | [], [], _, _, _, _ => by simp only [D.toPyA, PyData.eqvAll, D.eqbA]
  | [], y :: ys, _, _, _, _ => by simp only [D.toPyA, PyData.eqvAll, D.eqbA]
  | x :: xs, [], _, _, _, _ => by simp only [D.toPyA, PyData.eqvAll, D.eqbA]
  | x :: xs, y :: ys, 0, _, hx, _ => by unfold D.plA at hx; simp at hx
  | x :: xs, y :: ys, _ + 1, 0, _, hy => by unfold D.plA at hy; simp at hy
  | x :: xs, y :: ys, n + 1, m + 1, hx, hy => by
    unfold D.plA at hx hy
    have hx' := Bool.and_eq_true_iff.mp hx
    have hy' := Bool.and_eq_true_iff.mp hy
    simp only [D.toPyA, PyData.eqvAll, D.eqbA]
    rw [D.eqb_py hx'.1 hy'.1, D.eqb_pyA hx'.2 hy'.2]
end
theorem Vw.dp {v : V} {d : D} (h : Vw K F H d v) (fh : Ex F H) {n : Nat} (p : d.pl n = true) : Dp K H v d.toPy := by
  rcases h with h | ⟨a, o, xs, c, rfl, h1, h2, h3, rfl⟩
  · exact dp_mono fh (h.dp p)
  · cases c with
    | f d => exact h2.elim
    | l q ds =>
      have h2' : o = .lst xs := h2
      subst h2'
      simp only [Ce.d] at p ⊢
      unfold D.pl at p
      unfold D.toPy
      exact .lst (SqL.of h1) (dpA_mono fh (DnA.dp h3 p))
    | k q t ks vs =>
      simp only [Ce.d] at p
      unfold D.pl at p
      cases p
end
/-! plain scalars by themselves -/
def D.sc : D → D → Bool
  | .int _, .int _ => true | .str _, .str _ => true | .bool _, .bool _ => true | .none, .none => true | _, _ => false
def eqD (x y : D) : Rs Ce := if (x.sc y || (x.pl 60 && y.pl 60)) = true then .ok (.f (.bool (D.eqb x y))) else .no
def neD (x y : D) : Rs Ce := if (x.sc y || (x.pl 60 && y.pl 60)) = true then .ok (.f (.bool (!D.eqb x y))) else .no
def rEqA (K : PySem.W.Frag) : R2 := fun x y H Q => rEq x y H Q ∨ rEqD K x y H Q
def rNeA (K : PySem.W.Frag) : R2 := fun x y H Q => rNe x y H Q ∨ rNeD K x y H Q
theorem op_eqA {X : Cx} (hu : X.A.units + 64 < cLine) : OpR X (compareOp .Eq) (rEqA X.K) := op_eq.or (op_eqD hu)
theorem op_neA {X : Cx} (hu : X.A.units + 64 < cLine) : OpR X (compareOp .NotEq) (rNeA X.K) := op_ne.or (op_neD hu)
section
variable {K : PySem.W.Frag} {F H : Hp}
/-- a mere value comes -/
theorem ret1 {c : Ce} {v : V} {d : D} {Q : VK} (fh : Ex F H) (hd : Dn K F v d) (hc : c = .f d) (q : ∀ v F' H', Go F H F' H' noA → NAt K H F' H' c v → Q v H') : Q v H := q v F H (Go.refl fh) (.inl ⟨d, hc, hd⟩)
theorem shaped_pl {d : D} (h : d.pl 60 = true) : SeqAt.shaped d.toPy = true := by
  have := D.pl_ok h
  show (d.toPy.canLay0 && decide (d.toPy.depth ≤ 64)) = true
  rw [this.1, decide_eq_true (show d.toPy.depth ≤ 64 by omega)]
  rfl
theorem dec_vint (i j : Int) : decide (V.int i = V.int j) = (i == j) := dec_int
theorem sc_eq {dx dy : D} {x y : V} (h : dx.sc dy = true) (hx : Vw K F H dx x) (hy : Vw K F H dy y) : scal x y = true ∧ decide (x = y) = D.eqb dx dy := by
  cases dx <;> cases dy <;> first
    | (cases h; done)
    | skip
  · rw [hx.none, hy.none]
    refine ⟨rfl, ?_⟩
    unfold D.eqb
    rfl
  · rw [hx.bool, hy.bool]
    refine ⟨rfl, ?_⟩
    unfold D.eqb
    exact dec_bl
  · rw [hx.int, hy.int]
    refine ⟨rfl, ?_⟩
    unfold D.eqb
    exact dec_int
  · rw [hx.str, hy.str]
    refine ⟨rfl, ?_⟩
    unfold D.eqb
    exact dec_str
theorem snd_eq : Snd2 K (rEqA K) eqD := fun F H x y dx dy c Q fh hx hy hg q => by
  obtain ⟨h1, hg⟩ := ite_ok hg
  have hc : c = .f (.bool (D.eqb dx dy)) := (Rs.ok.inj hg).symm
  by_cases h : dx.sc dy = true
  · obtain ⟨e1, e2⟩ := sc_eq h hx hy
    refine .inl ⟨e1, ?_⟩
    rw [e2]
    exact ret1 fh (.bl _) hc q
  · have h2 : (dx.pl 60 && dy.pl 60) = true := by simpa [h] using h1
    obtain ⟨p1, p2⟩ := Bool.and_eq_true_iff.mp h2
    refine .inr ⟨_, _, hx.dp fh p1, hy.dp fh p2, shaped_pl p1, shaped_pl p2, ?_⟩
    rw [D.eqb_py p1 p2]
    exact ret1 fh (.bl _) hc q
theorem snd_ne : Snd2 K (rNeA K) neD := fun F H x y dx dy c Q fh hx hy hg q => by
  obtain ⟨h1, hg⟩ := ite_ok hg
  have hc : c = .f (.bool (!D.eqb dx dy)) := (Rs.ok.inj hg).symm
  by_cases h : dx.sc dy = true
  · obtain ⟨e1, e2⟩ := sc_eq h hx hy
    refine .inl ⟨e1, ?_⟩
    rw [e2]
    exact ret1 fh (.bl _) hc q
  · have h2 : (dx.pl 60 && dy.pl 60) = true := by simpa [h] using h1
    obtain ⟨p1, p2⟩ := Bool.and_eq_true_iff.mp h2
    refine .inr ⟨_, _, hx.dp fh p1, hy.dp fh p2, shaped_pl p1, shaped_pl p2, ?_⟩
    rw [D.eqb_py p1 p2]
    exact ret1 fh (.bl _) hc q

/-! ### arithmetic -/
def addD : D → D → Rs Ce
  | .int i, .int j => .ok (.f (.int (i + j)))
  | .str a, .str b => if a.length + b.length ≤ sizeLine then .ok (.f (.str (a ++ b))) else .no
  | .tuple a, .tuple b => if a.length + b.length ≤ sizeLine then .ok (.f (.tuple (a ++ b))) else .no
  | .list a, .list b => if a.length + b.length ≤ sizeLine then .ok (.l false (a ++ b)) else .no
  | _, _ => .no
def rAddA (K : PySem.W.Frag) : R2 := fun x y H Q => rI0 (fun i j => .int (i + j)) x y H Q ∨ (∃ i j, x = .str i ∧ y = .str j ∧ i.length + j.length ≤ sizeLine ∧ Q (.str (i ++ j)) H) ∨ rCatA K x y H Q ∨ rCat x y H Q
theorem op_addA {X : Cx} : OpR X (binaryOp .Add) (rAddA X.K) := op_add.or (op_add_str.or (op_catA.or op_cat))
theorem snd_add : Snd2 K (rAddA K) addD := fun F H x y dx dy c Q fh hx hy hg q => by
  cases dx <;> cases dy <;> first
    | (cases hg; done)
    | skip
  · rename_i i j
    cases hg
    rw [hx.int, hy.int]
    exact .inl ⟨i, j, rfl, rfl, ret1 fh (.int _) rfl q⟩
  · rename_i i j
    obtain ⟨h1, hg⟩ := ite_ok hg
    cases hg
    rw [hx.str, hy.str]
    exact .inr (.inl ⟨i, j, rfl, rfl, h1, ret1 fh (.str _) rfl q⟩)
  · obtain ⟨h1, hg⟩ := ite_ok hg
    cases hg
    obtain ⟨a, xs, rfl, h3, h4⟩ := hx.list fh
    obtain ⟨b, ys, rfl, h5, h6⟩ := hy.list fh
    refine .inr (.inr (.inr ⟨a, b, xs, ys, rfl, rfl, h3, h5, by rw [h4.len, h6.len]; exact h1, fun p hp => ?_⟩))
    exact q _ F _ (Go.newO fh hp) (.inr ⟨rfl, p, _, _, rfl, hp, ex_none fh hp, upd_same, rfl, h4.app h6⟩)
  · obtain ⟨h1, hg⟩ := ite_ok hg
    cases hg
    obtain ⟨a, xs, rfl, h3, h4, h4d⟩ := hx.tuple fh
    obtain ⟨b, ys, rfl, h5, h6, h6d⟩ := hy.tuple fh
    refine .inr (.inr (.inl ⟨a, b, xs, ys, rfl, rfl, h3, h5, by rw [h4.len, h6.len]; exact h1, fun e => ?_, fun e1 e2 => ?_, fun _ _ p hp => ?_⟩))
    · subst e
      cases h4
      exact ret1 fh h6d rfl q
    · subst e2
      cases h6
      refine ret1 fh h4d ?_ q
      rw [List.append_nil]
    · have go : Go F H (upd F p (.tup (xs ++ ys))) (upd H p (.tup (xs ++ ys))) noA := Go.newF fh hp
      exact q _ _ _ go (.inl ⟨_, rfl, .tup upd_same ((h4.app h6).mono go.ff)⟩)
def subD : D → D → Rs Ce
  | .int i, .int j => .ok (.f (.int (i - j)))
  | _, _ => .no
theorem snd_sub : Snd2 K (rI0 fun i j => .int (i - j)) subD := fun F H x y dx dy c Q fh hx hy hg q => by
  cases dx <;> cases dy <;> first
    | (cases hg; done)
    | skip
  rename_i i j
  cases hg
  rw [hx.int, hy.int]
  exact ⟨i, j, rfl, rfl, ret1 fh (.int _) rfl q⟩
/-- a product that is not too large -/
def MulOk (i j : Int) : Prop := (-(2 ^ 64) < i ∧ i < 2 ^ 64) ∨ (-(2 ^ 64) < j ∧ j < 2 ^ 64) ∨ (i.natAbs < 2 ^ 400000 ∧ j.natAbs < 2 ^ 400000)
noncomputable instance (i j : Int) : Decidable (MulOk i j) := Classical.propDecidable _
noncomputable def mulD : D → D → Rs Ce
  | .int i, .int j => if MulOk i j then .ok (.f (.int (i * j))) else .no
  | .list ds, .int k => if (-(2 ^ 63) ≤ k ∧ k < 2 ^ 63 ∧ ds.length * k.toNat ≤ sizeLine) then .ok (.l false (List.replicate k.toNat ds).flatten) else .no
  | _, _ => .no
def rMulA : R2 := fun x y H Q => rI CMul (fun i j => .int (i * j)) x y H Q ∨ rI CMulW (fun i j => .int (i * j)) x y H Q ∨ rRep x y H Q
theorem op_mulA {X : Cx} : OpR X (binaryOp .Mult) rMulA := op_mul.or (op_mulW.or op_rep)
theorem DnA.rep {xs : List V} {ds : List D} (h : DnA K F xs ds) : ∀ k : Nat, DnA K F (List.replicate k xs).flatten (List.replicate k ds).flatten
  | 0 => by simpa using DnA.nil
  | k + 1 => by
    rw [List.replicate_succ, List.replicate_succ, List.flatten_cons, List.flatten_cons]
    exact h.app (DnA.rep h k)
theorem mulOk_r {i j : Int} (h : MulOk i j) : CMul i j ∨ CMulW i j := by
  rcases h with h | h | ⟨h1, h2⟩
  · exact .inl (.inl h)
  · exact .inl (.inr h)
  · exact .inr (wide_mul h1 h2 (by decide) (by decide) (by decide))
theorem snd_mul : Snd2 K rMulA mulD := fun F H x y dx dy c Q fh hx hy hg q => by
  cases dx <;> cases dy <;> first
    | (cases hg; done)
    | skip
  · rename_i i j
    obtain ⟨h1, hg⟩ := ite_ok hg
    cases hg
    rw [hx.int, hy.int]
    rcases mulOk_r h1 with h | h
    · exact .inl ⟨i, j, rfl, rfl, h, ret1 fh (.int _) rfl q⟩
    · exact .inr (.inl ⟨i, j, rfl, rfl, h, ret1 fh (.int _) rfl q⟩)
  · rename_i ds k
    obtain ⟨⟨h1, h2, h3⟩, hg⟩ := ite_ok hg
    cases hg
    obtain ⟨a, xs, rfl, h5, h6⟩ := hx.list fh
    rw [hy.int]
    refine .inr (.inr ⟨a, k, xs, rfl, rfl, h5, h1, h2, by rw [h6.len]; exact h3, fun p hp => ?_⟩)
    exact q _ F _ (Go.newO fh hp) (.inr ⟨rfl, p, _, _, rfl, hp, ex_none fh hp, upd_same, rfl, h6.rep _⟩)
def DivOk (j : Int) : Prop := 0 < j ∧ j.natAbs < 2 ^ 8000
noncomputable instance (j : Int) : Decidable (DivOk j) := Classical.propDecidable _
noncomputable def fdivD : D → D → Rs Ce
  | .int i, .int j => if DivOk j then .ok (.f (.int (i / j))) else if j ≠ 0 ∧ j.natAbs < 1073741824 then .ok (.f (.int (i.fdiv j))) else .no
  | _, _ => .no
def rDivA : R2 := fun x y H Q => rI CDivW (fun i j => .int (i / j)) x y H Q ∨ rI CDivN (fun i j => .int (i.fdiv j)) x y H Q
theorem op_fdivA {X : Cx} : OpR X (binaryOp .FloorDiv) rDivA := op_fdivW.or op_fdivN
theorem divOk_w {j : Int} (h : DivOk j) : CDivW 0 j := wide_div h.1 h.2 (by decide) (by decide)
theorem snd_fdiv : Snd2 K rDivA fdivD := fun F H x y dx dy c Q fh hx hy hg q => by
  cases dx <;> cases dy <;> first
    | (cases hg; done)
    | skip
  rename_i i j
  rw [hx.int, hy.int]
  simp only [fdivD] at hg
  by_cases h : DivOk j
  · rw [if_pos h] at hg
    cases hg
    exact .inl ⟨i, j, rfl, rfl, wide_div h.1 h.2 (by decide) (by decide), ret1 fh (.int _) rfl q⟩
  · rw [if_neg h] at hg
    obtain ⟨h1, hg⟩ := ite_ok hg
    cases hg
    exact .inr ⟨i, j, rfl, rfl, h1, ret1 fh (.int _) rfl q⟩
def modD : D → D → Rs Ce
  | .int i, .int j => if 0 < j then .ok (.f (.int (i % j))) else if j ≠ 0 then .ok (.f (.int (i.fmod j))) else .no
  | _, _ => .no
def rModA : R2 := fun x y H Q => rI (fun _ j => 0 < j) (fun i j => .int (i % j)) x y H Q ∨ rI (fun _ j => j ≠ 0) (fun i j => .int (i.fmod j)) x y H Q
theorem op_modA {X : Cx} : OpR X (binaryOp .Mod) rModA := op_mod.or op_modN
theorem snd_mod : Snd2 K rModA modD := fun F H x y dx dy c Q fh hx hy hg q => by
  cases dx <;> cases dy <;> first
    | (cases hg; done)
    | skip
  rename_i i j
  rw [hx.int, hy.int]
  simp only [modD] at hg
  by_cases h : 0 < j
  · rw [if_pos h] at hg
    cases hg
    exact .inl ⟨i, j, rfl, rfl, h, ret1 fh (.int _) rfl q⟩
  · rw [if_neg h] at hg
    obtain ⟨h1, hg⟩ := ite_ok hg
    cases hg
    exact .inr ⟨i, j, rfl, rfl, h1, ret1 fh (.int _) rfl q⟩
def powD : D → D → Rs Ce
  | .int i, .int j => if 0 ≤ j ∧ j ≤ 10000 ∧ i.natAbs < 2 ^ 64 then .ok (.f (.int (i ^ j.toNat))) else .no
  | _, _ => .no
theorem snd_pow : Snd2 K (rI CPow fun i j => .int (i ^ j.toNat)) powD := fun F H x y dx dy c Q fh hx hy hg q => by
  cases dx <;> cases dy <;> first
    | (cases hg; done)
    | skip
  rename_i i j
  obtain ⟨⟨h1, h2, h3⟩, hg⟩ := ite_ok hg
  cases hg
  rw [hx.int, hy.int]
  exact ⟨i, j, rfl, rfl, ⟨h1, by omega, h3⟩, ret1 fh (.int _) rfl q⟩
def negD : D → Rs Ce
  | .int i => .ok (.f (.int (-i)))
  | _ => .no
theorem snd_neg : Snd1 K (rU fun i => .int (-i)) negD := fun F H x dx c Q fh hx hg q => by
  cases dx <;> first
    | (cases hg; done)
    | skip
  rename_i i
  cases hg
  rw [hx.int]
  exact ⟨i, rfl, ret1 fh (.int _) rfl q⟩
/-! ### comparisons of ints (and texts) -/
def ltD : D → D → Rs Ce
  | .int i, .int j => .ok (.f (.bool (decide (i < j))))
  | .str x, .str y => .ok (.f (.bool (decide (x.cps.toList < y.cps.toList))))
  | _, _ => .no
def leD : D → D → Rs Ce
  | .int i, .int j => .ok (.f (.bool (decide (i ≤ j))))
  | _, _ => .no
def gtD : D → D → Rs Ce
  | .int i, .int j => .ok (.f (.bool (decide (j < i))))
  | _, _ => .no
def geD : D → D → Rs Ce
  | .int i, .int j => .ok (.f (.bool (decide (j ≤ i))))
  | _, _ => .no
def rLtA : R2 := fun x y H Q => rI0 (fun i j => .bl (decide (i < j))) x y H Q ∨ (∃ i j, x = .str i ∧ y = .str j ∧ Q (.bl (decide (i.cps.toList < j.cps.toList))) H)
theorem op_ltA {X : Cx} : OpR X (compareOp .Lt) rLtA := op_lt.or op_lt_str
theorem snd_lt : Snd2 K rLtA ltD := fun F H x y dx dy c Q fh hx hy hg q => by
  cases dx <;> cases dy <;> first
    | (cases hg; done)
    | skip
  · rename_i i j
    cases hg
    rw [hx.int, hy.int]
    exact .inl ⟨i, j, rfl, rfl, ret1 fh (.bl _) rfl q⟩
  · rename_i i j
    cases hg
    rw [hx.str, hy.str]
    exact .inr ⟨i, j, rfl, rfl, ret1 fh (.bl _) rfl q⟩
theorem snd_le : Snd2 K (rI0 fun i j => .bl (decide (i ≤ j))) leD := fun F H x y dx dy c Q fh hx hy hg q => by
  cases dx <;> cases dy <;> first
    | (cases hg; done)
    | skip
  rename_i i j
  cases hg
  rw [hx.int, hy.int]
  exact ⟨i, j, rfl, rfl, ret1 fh (.bl _) rfl q⟩
theorem snd_gt : Snd2 K (rI0 fun i j => .bl (decide (j < i))) gtD := fun F H x y dx dy c Q fh hx hy hg q => by
  cases dx <;> cases dy <;> first
    | (cases hg; done)
    | skip
  rename_i i j
  cases hg
  rw [hx.int, hy.int]
  exact ⟨i, j, rfl, rfl, ret1 fh (.bl _) rfl q⟩
theorem snd_ge : Snd2 K (rI0 fun i j => .bl (decide (j ≤ i))) geD := fun F H x y dx dy c Q fh hx hy hg q => by
  cases dx <;> cases dy <;> first
    | (cases hg; done)
    | skip
  rename_i i j
  cases hg
  rw [hx.int, hy.int]
  exact ⟨i, j, rfl, rfl, ret1 fh (.bl _) rfl q⟩
/-! ### is None, is True, is False -/
def D.isN : D → Bool
  | .none => true | _ => false
def D.isB (b : Bool) : D → Bool
  | .bool c => c == b | _ => false
def isD : D → D → Rs Ce
  | x, .none => .ok (.f (.bool x.isN))
  | x, .bool b => .ok (.f (.bool (x.isB b)))
  | _, _ => .no
def isntD : D → D → Rs Ce
  | x, .none => .ok (.f (.bool (!x.isN)))
  | x, .bool b => .ok (.f (.bool (!x.isB b)))
  | _, _ => .no
def rIsA : R2 := fun x y H Q => (y = .non ∧ Q (.bl (decide (x = .non))) H) ∨ ∃ b, y = .bl b ∧ Q (.bl (decide (x = .bl b))) H
def rIsntA : R2 := fun x y H Q => (y = .non ∧ Q (.bl (!decide (x = .non))) H) ∨ ∃ b, y = .bl b ∧ Q (.bl (!decide (x = .bl b))) H
theorem beq_val_bool {X : Cx} {x : V} {v : Value} {b : Bool} (rx : RelV x v) : (v == Value.bool b) = decide (x = V.bl b) := by
  cases x <;> first
    | (obtain ⟨t, rfl⟩ := rx; rw [Bool.eq_iff_iff]; simp; done)
    | (cases rx; rw [Bool.eq_iff_iff]; simp; done)
theorem plain_bool {x : V} {v : Value} {b : Bool} (rx : RelV x v) : plainIs v (.bool b) = true := by
  cases x <;> first
    | (obtain ⟨t, rfl⟩ := rx; rfl)
    | (cases rx; rfl)
theorem op_isB {X : Cx} : OpR X (compareOp .Is) (fun x y H Q => ∃ b, y = .bl b ∧ Q (.bl (decide (x = .bl b))) H) := by
  intro pins s σ H x y v u Q I rx ry h
  obtain ⟨b, rfl, q⟩ := h
  cases (show u = Value.bool b from ry)
  exact wpAny_is_plain (plain_bool rx) ⟨.bl _, H, I, by rw [beq_val_bool (X := X) rx]; rfl, q⟩
theorem op_isntB {X : Cx} : OpR X (compareOp .IsNot) (fun x y H Q => ∃ b, y = .bl b ∧ Q (.bl (!decide (x = .bl b))) H) := by
  intro pins s σ H x y v u Q I rx ry h
  obtain ⟨b, rfl, q⟩ := h
  cases (show u = Value.bool b from ry)
  exact wpAny_isNot_plain (plain_bool rx) ⟨.bl _, H, I, by rw [beq_val_bool (X := X) rx]; rfl, q⟩
theorem op_isA {X : Cx} : OpR X (compareOp .Is) rIsA := op_isN.or op_isB
theorem op_isntA {X : Cx} : OpR X (compareOp .IsNot) rIsntA := op_notN.or op_isntB
theorem Vw.isN {d : D} {v : V} (h : Vw K F H d v) : decide (v = .non) = d.isN := by
  rcases h with h | ⟨a, o, xs, c, rfl, h1, h2, h3, rfl⟩
  · cases h <;> rfl
  · cases c <;> first | exact h2.elim | rfl
theorem Vw.isB {d : D} {v : V} {b : Bool} (h : Vw K F H d v) : decide (v = .bl b) = d.isB b := by
  rcases h with h | ⟨a, o, xs, c, rfl, h1, h2, h3, rfl⟩
  · cases h <;> first | rfl | (rw [Bool.eq_iff_iff]; simp [D.isB])
  · cases c <;> first | exact h2.elim | rfl
theorem snd_is : Snd2 K rIsA isD := fun F H x y dx dy c Q fh hx hy hg q => by
  cases dy <;> first
    | (cases hg; done)
    | skip
  · have hc : c = .f (.bool dx.isN) := (Rs.ok.inj hg).symm
    refine .inl ⟨hy.none, ?_⟩
    rw [hx.isN]
    exact ret1 fh (.bl _) hc q
  · rename_i b
    have hc : c = .f (.bool (dx.isB b)) := (Rs.ok.inj hg).symm
    refine .inr ⟨b, hy.bool, ?_⟩
    rw [hx.isB]
    exact ret1 fh (.bl _) hc q
theorem snd_isnt : Snd2 K rIsntA isntD := fun F H x y dx dy c Q fh hx hy hg q => by
  cases dy <;> first
    | (cases hg; done)
    | skip
  · have hc : c = .f (.bool (!dx.isN)) := (Rs.ok.inj hg).symm
    refine .inl ⟨hy.none, ?_⟩
    rw [hx.isN]
    exact ret1 fh (.bl _) hc q
  · rename_i b
    have hc : c = .f (.bool (!dx.isB b)) := (Rs.ok.inj hg).symm
    refine .inr ⟨b, hy.bool, ?_⟩
    rw [hx.isB]
    exact ret1 fh (.bl _) hc q
/-! ### subscripts -/
def ixD : D → D → Rs Ce
  | .tuple ds, .int i => match atI ds i with
    | some d => .ok (.f d)
    | _ => .no
  | .list ds, .int i => match atI ds i with
    | some d => .ok (.f d)
    | _ => .no
  | .ro ds, .int i => match atI ds i with
    | some d => .ok (.f d)
    | _ => .no
  | .str s, .int i => if s.length ≤ sizeLine then (match atI s.cps.toList i with
    | some c => .ok (.f (.str ⟨#[c]⟩))
    | _ => .no) else .no
  | _, _ => .no
theorem DnA.atI {xs : List V} {ds : List D} {i : Int} {d : D} (h : DnA K F xs ds) (e : L2.atI ds i = some d) : ∃ v, L2.atI xs i = some v ∧ Dn K F v d := by
  unfold L2.atI at e ⊢
  rw [h.len]
  cases q : ixN ds.length i with
  | none => rw [q] at e; cases e
  | some j =>
    rw [q] at e
    exact h.get e
theorem snd_ix : Snd2 K (rIx K) ixD := fun F H x y dx dy c Q fh hx hy hg q => by
  cases dx <;> cases dy <;> first
    | (cases hg; done)
    | skip
  · rename_i s i
    obtain ⟨h1, hg⟩ := ite_ok hg
    split at hg
    · rename_i ch h2
      cases hg
      rw [hx.str, hy.int]
      exact .inr (.inr ⟨s, i, ch, rfl, rfl, h1, h2, ret1 fh (.str _) rfl q⟩)
    · cases hg
  · rename_i ds i
    simp only [ixD] at hg
    split at hg
    · rename_i d h2
      cases hg
      obtain ⟨a, xs, rfl, h3, h4⟩ := hx.list fh
      obtain ⟨v, h5, h6⟩ := h4.atI h2
      rw [hy.int]
      exact .inl ⟨a, xs, i, v, rfl, rfl, SqL.of h3, h5, ret1 fh h6 rfl q⟩
    · cases hg
  · rename_i ds i
    simp only [ixD] at hg
    split at hg
    · rename_i d h2
      cases hg
      obtain ⟨a, xs, rfl, h3, h4, _⟩ := hx.tuple fh
      obtain ⟨v, h5, h6⟩ := h4.atI h2
      rw [hy.int]
      exact .inr (.inl ⟨a, xs, i, v, rfl, rfl, h3, h5, ret1 fh h6 rfl q⟩)
    · cases hg
  · rename_i ds i
    simp only [ixD] at hg
    split at hg
    · rename_i d h2
      cases hg
      obtain ⟨a, xs, rfl, h3, h4⟩ := hx.ro fh
      obtain ⟨v, h5, h6⟩ := h4.atI h2
      rw [hy.int]
      exact .inl ⟨a, xs, i, v, rfl, rfl, h3, h5, ret1 fh h6 rfl q⟩
    · cases hg
/-! ### built-in functions -/
theorem VwA.one {ds : List D} {xs : List V} {d : D} (h : VwA K F H [d] xs) : ∃ x, xs = [x] ∧ Vw K F H d x := by
  cases h with
  | cons h t => cases t; exact ⟨_, rfl, h⟩
theorem VwA.two {d d' : D} {xs : List V} (h : VwA K F H [d, d'] xs) : ∃ x y, xs = [x, y] ∧ Vw K F H d x ∧ Vw K F H d' y := by
  cases h with
  | cons h t => cases t with
    | cons h' t' => cases t'; exact ⟨_, _, rfl, h, h'⟩
def lenD : List D → Rs Ce
  | [.str s] => if s.length ≤ sizeLine then .ok (.f (.int s.length)) else .no
  | [.list ds] => .ok (.f (.int ds.length))
  | [.ro ds] => .ok (.f (.int ds.length))
  | [.tuple ds] => .ok (.f (.int ds.length))
  | [.dict _ ks _] => .ok (.f (.int ks.length))
  | _ => .no
theorem dcO_len {t : Bool} {o : HO} {ks : List D} {xs : List V} (h : DcO t o ks xs) : ks.length = xs.length := by
  rcases h with ⟨_, kvs, _, rfl, rfl⟩ | ⟨_, kvs, _, rfl, rfl⟩ <;> simp
/-- int(x) -/
def intD : List D → Rs Ce
  | [.int i] => .ok (.f (.int i))
  | [.bool b] => .ok (.f (.int (if b then 1 else 0)))
  | _ => .no
theorem snd_int : SndL K (fun xs H Q => (∃ i, xs = [.int i] ∧ Q (.int i) H) ∨ ∃ k, xs = [.bl k] ∧ Q (.int (if k then 1 else 0)) H) intD := fun F H xs ds c Q fh hx hg q => by
  unfold intD at hg
  split at hg
  · cases hg
    obtain ⟨x, rfl, h⟩ := hx.one (ds := [])
    rw [h.int]
    exact .inl ⟨_, rfl, ret1 fh (.int _) rfl q⟩
  · cases hg
    obtain ⟨x, rfl, h⟩ := hx.one (ds := [])
    rw [h.bool]
    exact .inr ⟨_, rfl, ret1 fh (.int _) rfl q⟩
  · cases hg
def absD : List D → Rs Ce
  | [.int i] => .ok (.f (.int (if i < 0 then -i else i)))
  | _ => .no
theorem snd_abs : SndL K (fun xs H Q => ∃ i, xs = [.int i] ∧ Q (.int (if i < 0 then -i else i)) H) absD := fun F H xs ds c Q fh hx hg q => by
  unfold absD at hg
  split at hg
  · cases hg
    obtain ⟨x, rfl, h⟩ := hx.one (ds := [])
    rw [h.int]
    exact ⟨_, rfl, ret1 fh (.int _) rfl q⟩
  · cases hg
def gcdD : List D → Rs Ce
  | [.int a, .int b] => .ok (.f (.int ((Nat.gcd a.natAbs b.natAbs : Nat) : Int)))
  | _ => .no
theorem snd_gcd : SndL K rGcd gcdD := fun F H xs ds c Q fh hx hg q => by
  unfold gcdD at hg
  split at hg
  · cases hg
    obtain ⟨x, y, rfl, h, h'⟩ := hx.two
    rw [h.int, h'.int]
    exact ⟨_, _, rfl, ret1 fh (.int _) rfl q⟩
  · cases hg
def lcmD : List D → Rs Ce
  | [.int a, .int b] => if a.natAbs < 2 ^ 64 ∧ b.natAbs < 2 ^ 64 then .ok (.f (.int ((Nat.lcm a.natAbs b.natAbs : Nat) : Int))) else .no
  | _ => .no
def rLcm : List V → Hp → VK → Prop := fun vs H Q => ∃ a b : Int, vs = [.int a, .int b] ∧ a.natAbs < 2 ^ 64 ∧ b.natAbs < 2 ^ 64 ∧ Q (.int ((Nat.lcm a.natAbs b.natAbs : Nat) : Int)) H
theorem cr_lcm {X : Cx} : CallR X (.builtin "math.lcm") rLcm := by
  intro pins s σ H vs us Q I r h
  obtain ⟨a, b, rfl, h1, h2, q⟩ := h
  obtain ⟨t, u, rfl⟩ := Vals.int2 r
  exact PySem.W.mc_lcm h1 h2 fun _ => ⟨.int _, H, I.tok _, ⟨_, rfl⟩, q⟩
theorem snd_lcm : SndL K rLcm lcmD := fun F H xs ds c Q fh hx hg q => by
  unfold lcmD at hg
  split at hg
  · obtain ⟨⟨h1, h2⟩, hg⟩ := ite_ok hg
    cases hg
    obtain ⟨x, y, rfl, h, h'⟩ := hx.two
    rw [h.int, h'.int]
    exact ⟨_, _, rfl, h1, h2, ret1 fh (.int _) rfl q⟩
  · cases hg
end
end DL

namespace DL
open PySem L2 PyProof.Rows

section
variable {X : Cx}
theorem PSimp {st : Stmt} {t t' : TS} (h : PS X st t) (hi : ∀ D σ H, t' D σ H → t D σ H) : PS X st t' := ⟨fun pins s σ H D I q => h.run pins s σ H D I (hi D σ H q)⟩
theorem PSsimp {sts : List Stmt} {t t' : TS} (h : PSs X sts t) (hi : ∀ D σ H, t' D σ H → t D σ H) : PSs X sts t' := ⟨fun pins s σ H D I q => h.run pins s σ H D I (hi D σ H q)⟩
theorem PGimp {tg : Expr} {t t' : TG} (h : PG X tg t) (hi : ∀ v σ H Q, t' v σ H Q → t v σ H Q) : PG X tg t' := ⟨fun pins s σ H v u Q I r q => h.run pins s σ H v u Q I r (hi v σ H Q q)⟩
end
/-! ### statements -/
/-- a result: frozen data, or an object that is new since the entry -/
def RtA (K : PySem.W.Frag) (G : Bs) (F' H' : Hp) (c : Ce) (v : V) : Prop :=
  (∃ d, c = .f d ∧ Dn K F' v d) ∨ (c.io = false ∧ ∃ a o xs, v = .ref a ∧ G.H a = none ∧ F' a = none ∧ H' a = some o ∧ CeO o c xs ∧ DnA K F' xs c.mem)
def Post (K : PySem.W.Frag) (G : Bs) (F : Hp) (E : Ends) : Out → Prop
  | .nx e' => ∀ F' H' σ', R K G F' H' σ' e' → Ex F F' → E.nx σ' H'
  | .bk e' => ∀ F' H' σ', R K G F' H' σ' e' → Ex F F' → E.bk σ' H'
  | .ct e' => ∀ F' H' σ', R K G F' H' σ' e' → Ex F F' → E.ct σ' H'
  | .rt c e' => ∀ v F' H' σ', R K G F' H' σ' e' → Ex F F' → RtA K G F' H' c v → E.rt v H'
  | _ => False
def tS (K : PySem.W.Frag) (m : En → Out) : TS := fun E σ H => ∃ G F e, R K G F H σ e ∧ Post K G F E (m e)
abbrev PDS (X : Cx) (st : Stmt) (m : En → Out) : Prop := PS X st (tS X.K m)
abbrev PDs (X : Cx) (sts : List Stmt) (m : En → Out) : Prop := PSs X sts (tS X.K m)
/-- a step of a statement, its expression's outcome first -/
def onR {α : Type} (r : Rs (α × En)) (f : α → En → Out) : Out := match r with
  | .ok (a, e) => f a e
  | .ex n ds => .ex n ds
  | .no => .no
@[simp] theorem onR_ok {α : Type} (a : α) (e : En) (f : α → En → Out) : onR (.ok (a, e)) f = f a e := rfl
@[simp] theorem onR_ex {α : Type} (n : String) (ds : List D) (f : α → En → Out) : onR (.ex n ds) f = .ex n ds := rfl
@[simp] theorem onR_no {α : Type} (f : α → En → Out) : onR .no f = .no := rfl
def ioAt (e : En) (i : Nat) : Bool := match e[i]? with
  | some (some c) => c.io
  | _ => false
section
variable {X : Cx} {K : PySem.W.Frag} {G : Bs} {F F1 H H1 : Hp} {σ : L2.St} {e e1 : En} {E : Ends} {v : V} {c : Ce} {d : D} {i : Nat} {a : Addr}
theorem Post.ex {o : Out} (h : Post K G F E o) (x : Ex F F1) : Post K G F1 E o := by
  cases o with
  | nx e' => exact fun F' H' σ' r q => h F' H' σ' r (x.trans q)
  | bk e' => exact fun F' H' σ' r q => h F' H' σ' r (x.trans q)
  | ct e' => exact fun F' H' σ' r q => h F' H' σ' r (x.trans q)
  | rt c e' => exact fun v F' H' σ' r q => h v F' H' σ' r (x.trans q)
  | ex n ds => exact h
  | no => exact h
theorem onR_inv {α : Type} {r : Rs (α × En)} {f : α → En → Out} (h : Post K G F E (onR r f)) : ∃ a e', r = .ok (a, e') ∧ Post K G F E (f a e') := by
  cases r with
  | ok p => exact ⟨p.1, p.2, rfl, h⟩
  | ex n ds => exact h.elim
  | no => exact h.elim
/-- a value is stored in a slot -/
theorem R.set (r : R K G F H σ e) (hi : ioAt e i = false) (hv : HAt K G σ F H e (.v c) v) : R K G F H (σ.set i (some v)) (e.set i (some c)) := by
  have hio : ∀ c', e[i]? = some (some c') → c'.io = false := fun c' h => by
    unfold ioAt at hi
    rw [h] at hi
    exact hi
  have hlen := r.len
  -- what a slot behind the store holds
  have at2 : ∀ (j : Nat) (c' : Ce), (e.set i (some c))[j]? = some (some c') → (j = i ∧ c' = c ∧ (σ.set i (some v))[j]? = some (some v)) ∨ (j ≠ i ∧ e[j]? = some (some c') ∧ (σ.set i (some v))[j]? = σ[j]?) := fun j c' h => by
    by_cases hj : j = i
    · subst hj
      have hl : j < e.length := by
        have := (List.getElem?_eq_some_iff.mp h).1
        simpa using this
      rw [List.getElem?_set_self hl] at h
      cases h
      exact .inl ⟨rfl, rfl, List.getElem?_set_self (by omega)⟩
    · rw [List.getElem?_set_ne (Ne.symm hj)] at h
      exact .inr ⟨hj, h, List.getElem?_set_ne (Ne.symm hj)⟩
  refine ⟨r.go, r.ba, fun j c' h => ?_, fun j k c1 c2 b hjk h1 h2 o1 o2 s1 s2 => ?_, fun p hp => ?_, by simp [hlen]⟩
  · rcases at2 j c' h with ⟨rfl, rfl, e1⟩ | ⟨hj, h', e1⟩
    · refine ⟨v, e1, ?_⟩
      rcases hv with ⟨d, rfl, hd⟩ | ⟨h1, a, o, xs, rfl, h2, h3, h4, h5, h6, h7⟩
      · exact .inl ⟨d, rfl, hd⟩
      · exact .inr ⟨a, o, xs, rfl, h3, h4, h6, h7, (fun z => by rw [h1] at z; cases z), fun _ => h2⟩
    · obtain ⟨v', q1, q2⟩ := r.at_ j c' h'
      exact ⟨v', e1.trans q1, q2⟩
  · have key : ∀ (j k : Nat) (c1 c2 : Ce), j = i → c1 = c → k ≠ i → e[k]? = some (some c2) → c1.ow = true → c2.ow = true → (σ.set i (some v))[j]? = some (some (V.ref b)) → (σ.set i (some v))[j]? = some (some v) → σ[k]? ≠ some (some (V.ref b)) := by
      intro j k c1 c2 hj hc hk kh2 ko1 ko2 ks1 ksv ks2
      rw [ksv] at ks1
      rcases hv with ⟨d, q, hd⟩ | ⟨h1, a, o, xs, q, h2', h3, h4, h5, h6, h7⟩
      · rw [hc, q] at ko1
        cases ko1
      · rw [q] at ks1
        cases ks1
        exact h5 ⟨k, c2, kh2, ko2, ks2⟩
    rcases at2 j c1 h1 with ⟨e1, e2, e3⟩ | ⟨hj, h1', e1⟩
    · rcases at2 k c2 h2 with ⟨e1', _, _⟩ | ⟨hk, h2', e1'⟩
      · exact hjk (e1.trans e1'.symm)
      · rw [e1'] at s2
        exact key j k c1 c2 e1 e2 hk h2' o1 o2 s1 e3 s2
    · rcases at2 k c2 h2 with ⟨e1', e2', e3'⟩ | ⟨hk, h2', e1'⟩
      · rw [e1] at s1
        exact key k j c2 c1 e1' e2' hj h1' o2 o1 s2 e3' s1
      · rw [e1] at s1
        rw [e1'] at s2
        exact r.sep j k c1 c2 b hjk h1' h2' o1 o2 s1 s2
  · obtain ⟨h1, c', h2, h3⟩ := r.io p hp
    have hne : p.1 ≠ i := fun z => by
      rw [z] at h2
      rw [hio c' h2] at h3
      cases h3
    rw [List.getElem?_set_ne (Ne.symm hne), List.getElem?_set_ne (Ne.symm hne)]
    exact ⟨h1, c', h2, h3⟩
def sAsg (i : Nat) (m : M Ce) : En → Out := fun e => onR (m e) fun c e' => if ioAt e' i = true then .no else .nx (e'.set i (some c))
def sAsgF (i : Nat) (m : M D) : En → Out := fun e => onR (m e) fun d e' => if ioAt e' i = true then .no else .nx (e'.set i (some (.f d)))
theorem post_ite {o : Out} {b : Bool} (h : Post K G F E (if b = true then .no else o)) : b = false ∧ Post K G F E o := by
  cases b with
  | true => rw [if_pos rfl] at h; exact h.elim
  | false => rw [if_neg Bool.false_ne_true] at h; exact ⟨rfl, h⟩
variable {st : Stmt} {sts : List Stmt} {ex ey ez : Expr} {es : List Expr} {pos pos' : Pos} {x : Str}
theorem asg_ok {m : M Ce} (h : tS K (sAsg i m) E σ H) : tAsg (tN K m) (gName i) E σ H := by
  obtain ⟨G, F, e, r, hp⟩ := h
  obtain ⟨c, e1, h1, hp⟩ := onR_inv hp
  obtain ⟨h2, hp⟩ := post_ite hp
  exact ⟨G, F, e, c, e1, r, h1, fun v F' H' n hn => hp F' H' _ (n.r.set h2 (hn.hat r n)) n.go.ff⟩
theorem asgF_ok {m : M D} (h : tS K (sAsgF i m) E σ H) : tAsg (tF K m) (gName i) E σ H := by
  obtain ⟨G, F, e, r, hp⟩ := h
  obtain ⟨c, e1, h1, hp⟩ := onR_inv hp
  obtain ⟨h2, hp⟩ := post_ite hp
  exact ⟨G, F, e, c, e1, r, h1, fun v F' H' n hn => hp F' H' _ (n.r.set h2 (.inl ⟨c, rfl, hn⟩)) n.go.ff⟩
/-- x = e, x a list or a dict of one's own -/
theorem pds_set {m : M Ce} (hN : X.N.Nodup) (hi : X.N[i]? = some x) (hx : Loc X.env.scope x) (he : PN X ex m) (hs : swapsWith ex (some (.Name x pos')) pos.line X.env = pure false := by rfl) (hf : X.fn x = true ∨ X.env.scope.names.lookup x = some .local := by first | exact .inl rfl | exact .inr rfl | assumption) :
    PDS X (.Assign [.Name x pos'] ex pos) (sAsg i m) := PSimp (ps_set hN hi hx he hs hf) fun D σ H h => asg_ok h
/-- x = e, frozen data -/
theorem pds_setF {m : M D} (hN : X.N.Nodup) (hi : X.N[i]? = some x) (hx : Loc X.env.scope x) (he : PF X ex m) (hs : swapsWith ex (some (.Name x pos')) pos.line X.env = pure false := by rfl) (hf : X.fn x = true ∨ X.env.scope.names.lookup x = some .local := by first | exact .inl rfl | exact .inr rfl | assumption) :
    PDS X (.Assign [.Name x pos'] ex pos) (sAsgF i m) := PSimp (ps_set hN hi hx he hs hf) fun D σ H h => asgF_ok h
/-- one behind the other -/
def sSeq (a b : En → Out) : En → Out := fun e => match a e with
  | .nx e' => b e'
  | o => o
def sNext : En → Out := fun e => .nx e
theorem pds_nil : PDs X [] sNext := PSsimp pss_nil fun E σ H ⟨G, F, e, r, hp⟩ => hp F H σ r (Evl.Ex.refl _)
theorem seq_ok {a b : En → Out} (h : tS K (sSeq a b) E σ H) : tSeq (tS K a) (tS K b) E σ H := by
  obtain ⟨G, F, e, r, hp⟩ := h
  refine ⟨G, F, e, r, ?_⟩
  unfold sSeq at hp
  cases q : a e with
  | nx e1 =>
    rw [q] at hp
    exact fun F' H' σ' r' x => ⟨G, F', e1, r', Post.ex hp x⟩
  | bk e1 => rw [q] at hp; exact hp
  | ct e1 => rw [q] at hp; exact hp
  | rt c e1 => rw [q] at hp; exact hp
  | ex n ds => rw [q] at hp; exact hp.elim
  | no => rw [q] at hp; exact hp.elim
theorem pds_cons {a b : En → Out} (h1 : PDS X st a) (h2 : PDs X sts b) : PDs X (st :: sts) (sSeq a b) := PSsimp (pss_cons h1 h2) fun D σ H h => seq_ok h
theorem pds_one {a : En → Out} (h1 : PDS X st a) : PDs X [st] a := pss_one h1
theorem pds_doc {s : Str} {j : Nat} : PDS X (.Expr (.Constant (.str s) j pos) pos') sNext := PSimp ps_doc fun E σ H ⟨G, F, e, r, hp⟩ => hp F H σ r (Evl.Ex.refl _)
theorem pds_pass : PDS X (.Pass pos) sNext := PSimp ps_pass fun E σ H ⟨G, F, e, r, hp⟩ => hp F H σ r (Evl.Ex.refl _)
def sBreak : En → Out := fun e => .bk e
def sCont : En → Out := fun e => .ct e
theorem pds_break : PDS X (.Break pos) sBreak := PSimp ps_break fun E σ H ⟨G, F, e, r, hp⟩ => hp F H σ r (Evl.Ex.refl _)
theorem pds_cont : PDS X (.Continue pos) sCont := PSimp ps_continue fun E σ H ⟨G, F, e, r, hp⟩ => hp F H σ r (Evl.Ex.refl _)
/-- a slot's own object is frozen for good (nothing happens in the program) -/
def sFrz (i : Nat) (b : En → Out) : En → Out := fun e => match e[i]? with
  | some (some c) => if c.io = true then .no else b (e.set i (some (.f c.d)))
  | _ => .no
theorem frz_ok {b : En → Out} (h : tS K (sFrz i b) E σ H) : tS K b E σ H := by
  obtain ⟨G, F, e, r, hp⟩ := h
  unfold sFrz at hp
  cases q : e[i]? with
  | none => rw [q] at hp; exact hp.elim
  | some oc =>
    cases oc with
    | none => rw [q] at hp; exact hp.elim
    | some c =>
      rw [q] at hp
      obtain ⟨hio, hp⟩ := post_ite hp
      obtain ⟨v, h1, h2⟩ := r.at_ i c q
      have hioAt : ioAt e i = false := by unfold ioAt; rw [q]; exact hio
      have hset : ∀ (σ : L2.St), σ[i]? = some (some v) → σ.set i (some v) = σ := fun σ hσ => by
        apply List.ext_getElem?
        intro j
        by_cases hj : j = i
        · subst hj
          rw [List.getElem?_set_self (List.getElem?_eq_some_iff.mp hσ).1, hσ]
        · rw [List.getElem?_set_ne (Ne.symm hj)]
      rcases h2 with ⟨d, rfl, hd⟩ | ⟨a, o, xs, rfl, q1, q2, q3, q4, q5, q6⟩
      · have r2 := r.set (i := i) hioAt (c := .f d) (v := v) (.inl ⟨d, rfl, hd⟩)
        rw [hset σ h1] at r2
        exact ⟨G, F, _, r2, hp⟩
      · -- the slot is forgotten, the object frozen, the slot told anew
        have hcd : Dn K (upd F a o) (.ref a) c.d := by
          cases c with
          | f d => exact q3.elim
          | l p ds =>
            have q3' : o = .lst xs := q3
            subst q3'
            exact .lst upd_same (q4.mono (Evl.Ex.new q1))
          | k p t ks vs => exact .dic upd_same q3 (q4.mono (Evl.Ex.new q1))
        have hl : i < e.length := (List.getElem?_eq_some_iff.mp q).1
        -- R without slot i
        have r0 : R K G F H σ (e.set i none) := by
          have at2 : ∀ (j : Nat) (c' : Ce), (e.set i none)[j]? = some (some c') → j ≠ i ∧ e[j]? = some (some c') := fun j c' h => by
            by_cases hj : j = i
            · subst hj
              rw [List.getElem?_set_self hl] at h
              cases h
            · rw [List.getElem?_set_ne (Ne.symm hj)] at h
              exact ⟨hj, h⟩
          refine ⟨r.go, r.ba, fun j c' h => r.at_ j c' (at2 j c' h).2, fun j k c1 c2 b hjk g1 g2 o1 o2 => r.sep j k c1 c2 b hjk (at2 _ _ g1).2 (at2 _ _ g2).2 o1 o2, fun p hp => ?_, by simpa using r.len⟩
          obtain ⟨g1, c', g2, g3⟩ := r.io p hp
          have hne : p.1 ≠ i := fun z => by
            rw [z, q] at g2
            cases g2
            rw [hio] at g3
            cases g3
          exact ⟨g1, c', by rw [List.getElem?_set_ne (Ne.symm hne)]; exact g2, g3⟩
        have hnl : ¬ Lv σ (e.set i none) a := fun ⟨j, c', g1, g2, g3⟩ => by
          by_cases hj : j = i
          · subst hj
            rw [List.getElem?_set_self hl] at g1
            cases g1
          · rw [List.getElem?_set_ne (Ne.symm hj)] at g1
            exact r.sep j i c' c a hj g1 q g2 q3.ow g3 h1
        have r1 := r0.frz q1 q2 hnl (q6 hio)
        have r2 := r1.set (i := i) (c := .f c.d) (v := .ref a) (by unfold ioAt; rw [List.getElem?_set_self hl]) (.inl ⟨_, rfl, hcd⟩)
        rw [hset σ h1, List.set_set] at r2
        exact ⟨G, upd F a o, _, r2, Post.ex hp (Evl.Ex.new q1)⟩
theorem pds_frz {b : En → Out} (i : Nat) (h : PDs X sts b) : PDs X sts (sFrz i b) := PSsimp h fun D σ H h => frz_ok h
/-- an expression as a statement -/
def sDrop {α : Type} (m : M α) : En → Out := fun e => onR (m e) fun _ e' => .nx e'
theorem pds_expr {m : M Ce} (he : PN X ex m) (hs : swapsWith ex none pos.line X.env = pure false := by rfl) : PDS X (.Expr ex pos) (sDrop m) := PSimp (ps_expr he hs) fun E σ H ⟨G, F, e, r, hp⟩ => by
  obtain ⟨c, e1, h1, hp⟩ := onR_inv hp
  exact ⟨G, F, e, c, e1, r, h1, fun v F' H' n hn => hp F' H' _ n.r n.go.ff⟩
def sRet (m : M Ce) : En → Out := fun e => onR (m e) fun c e' => .rt c e'
theorem NAt.rt {e1 : En} (h : NAt K H F1 H1 c v) (r : R K G F H σ e) : RtA K G F1 H1 c v := by
  rcases h with ⟨d, rfl, h⟩ | ⟨hio, a, o, xs, rfl, h1, h2, h3, h4, h5⟩
  · exact .inl ⟨d, rfl, h⟩
  · exact .inr ⟨hio, a, o, xs, rfl, (r.new h1).2.1, h2, h3, h4, h5⟩
theorem pds_ret {m : M Ce} (he : PN X ex m) : PDS X (.Return (some ex) pos) (sRet m) := PSimp (ps_ret he) fun E σ H ⟨G, F, e, r, hp⟩ => by
  obtain ⟨c, e1, h1, hp⟩ := onR_inv hp
  exact ⟨G, F, e, c, e1, r, h1, fun v F' H' n hn => hp v F' H' σ n.r n.go.ff (hn.rt (e1 := e) r)⟩
def sRetN : En → Out := fun e => .rt (.f .none) e
theorem pds_retN : PDS X (.Return none pos) sRetN := PSimp ps_retN fun E σ H ⟨G, F, e, r, hp⟩ => hp .non F H σ r (Evl.Ex.refl _) (.inl ⟨_, rfl, .non⟩)
/-- return x, x a slot with an object of one's own -/
def sRetS (i : Nat) : En → Out := fun e => match e[i]? with
  | some (some c) => if c.io = true then .no else .rt c e
  | _ => .no
theorem pds_retS (i : Nat) (he : PE X ex (tVar i)) : PDS X (.Return (some ex) pos) (sRetS i) := PSimp (ps_ret he) fun E σ H ⟨G, F, e, r, hp⟩ => by
  unfold sRetS at hp
  cases q : e[i]? with
  | none => rw [q] at hp; exact hp.elim
  | some oc =>
    cases oc with
    | none => rw [q] at hp; exact hp.elim
    | some c =>
      rw [q] at hp
      obtain ⟨hio, hp⟩ := post_ite hp
      obtain ⟨v, h1, h2⟩ := r.at_ i c q
      refine ⟨v, h1, hp v F H σ r (Evl.Ex.refl _) ?_⟩
      rcases h2 with ⟨d, rfl, hd⟩ | ⟨a, o, xs, rfl, q1, q2, q3, q4, q5, q6⟩
      · exact .inl ⟨d, rfl, hd⟩
      · exact .inr ⟨hio, a, o, xs, rfl, q6 hio, q1, q2, q3, q4⟩
def sIf (t : M Bool) (a b : En → Out) : En → Out := fun e => onR (t e) fun c e' => if c = true then a e' else b e'
theorem pds_if {t : M Bool} {a b : En → Out} {s1 s2 : List Stmt} (ht : PTd X ex t) (ha : PDs X s1 a) (hb : PDs X s2 b) : PDS X (.If ex s1 s2 pos) (sIf t a b) := PSimp (ps_if ht ha hb) fun E σ H ⟨G, F, e, r, hp⟩ => by
  obtain ⟨c, e1, h1, hp⟩ := onR_inv hp
  refine ⟨G, F, e, c, e1, r, h1, fun F' H' n => ?_⟩
  cases c with
  | true => exact ⟨G, F', e1, n.r, Post.ex hp n.go.ff⟩
  | false => exact ⟨G, F', e1, n.r, Post.ex hp n.go.ff⟩

/-! ### a list of one's own is changed -/
theorem set_kd (h : e[i]? = some (some c)) {c' : Ce} (hk : c'.kd = c.kd) : (e.set i (some c')).map (Option.map Ce.kd) = e.map (Option.map Ce.kd) := by
  apply List.ext_getElem?
  intro j
  rw [List.getElem?_map, List.getElem?_map]
  by_cases hj : j = i
  · subst hj
    rw [List.getElem?_set_self (List.getElem?_eq_some_iff.mp h).1, h]
    simp [hk]
  · rw [List.getElem?_set_ne (Ne.symm hj)]
/-- the object of slot i is written: its cell is c' from now on -/
theorem R.wr (r : R K G F H σ e) (h : e[i]? = some (some c)) (hs : σ[i]? = some (some (.ref a))) (ho : c.ow = true) {c' : Ce} (hk : c'.kd = c.kd) {o' : HO} {xs' : List V} (hc : CeO o' c' xs') (hm : DnA K F xs' c'.mem) :
    Nx K G σ F H e F (upd H a o') (e.set i (some c')) := by
  have hl : i < e.length := (List.getElem?_eq_some_iff.mp h).1
  obtain ⟨v, h1, h2⟩ := r.at_ i c h
  rw [hs] at h1
  cases h1
  obtain ⟨a', o, xs, q, q1, q2, q3, q4, q5, q6⟩ := h2.own ho
  cases q
  have lv : Lv σ e a := ⟨i, c, h, ho, hs⟩
  have sh := set_kd h hk
  obtain ⟨k1, k2⟩ := kd_ow hk
  have go : Go F H F (upd H a o') (Lv σ e) := Go.wr r.fh q1 lv (by rw [q2]; rfl)
  have at2 : ∀ (j : Nat) (c2 : Ce), (e.set i (some c'))[j]? = some (some c2) → (j = i ∧ c2 = c') ∨ (j ≠ i ∧ e[j]? = some (some c2)) := fun j c2 h => by
    by_cases hj : j = i
    · subst hj
      rw [List.getElem?_set_self hl] at h
      cases h
      exact .inl ⟨rfl, rfl⟩
    · rw [List.getElem?_set_ne (Ne.symm hj)] at h
      exact .inr ⟨hj, h⟩
  refine ⟨⟨?_, r.ba, fun j c2 hj => ?_, fun j k c1 c2 b hjk h1 h2 o1 o2 s1 => ?_, fun p hp => ?_, by simpa using r.len⟩, go, sh⟩
  · refine ⟨r.go.ff, fun b u hb hn => ?_, go.fh, fun b hb1 hb2 => ?_⟩
    · have hba : b ≠ a := fun z => by
        subst z
        cases hci : c.io with
        | true => exact hn ⟨i, q5 hci⟩
        | false =>
          rw [q6 hci] at hb
          cases hb
      rw [upd_ne hba]
      exact r.go.hh b u hb hn
    · obtain ⟨z1, z2⟩ := r.go.st b hb1 hb2
      refine ⟨z1, ?_⟩
      by_cases hba : b = a
      · subst hba; rw [upd_same]; rfl
      · rw [upd_ne hba]; exact z2
  · rcases at2 j c2 hj with ⟨rfl, rfl⟩ | ⟨hne, hj⟩
    · exact ⟨_, hs, .inr ⟨a, o', xs', rfl, q1, upd_same, hc, hm, fun z => q5 (by rw [← k2]; exact z), fun z => q6 (by rw [← k2]; exact z)⟩⟩
    · obtain ⟨w, g1, g2⟩ := r.at_ j c2 hj
      refine ⟨w, g1, ?_⟩
      rcases g2 with g2 | ⟨b, u, ys, rfl, z1, z2, z3, z4, z5, z6⟩
      · exact .inl g2
      · have hba : b ≠ a := fun z => by
          subst z
          exact r.sep j i c2 c b hne hj h z3.ow ho g1 hs
        exact .inr ⟨b, u, ys, rfl, z1, by rw [upd_ne hba]; exact z2, z3, z4, z5, z6⟩
  · obtain ⟨d1, g1, w1⟩ := sh_at sh.symm h1
    obtain ⟨d2, g2, w2⟩ := sh_at sh.symm h2
    exact r.sep j k d1 d2 b hjk g1 g2 (by rw [(kd_ow w1).1]; exact o1) (by rw [(kd_ow w2).1]; exact o2) s1
  · obtain ⟨h1, c2, h2, h3⟩ := r.io p hp
    obtain ⟨d2, g2, w2⟩ := sh_at sh h2
    exact ⟨h1, d2, g2, by rw [(kd_ow w2).2]; exact h3⟩
/-- x.append(e) -/
def sApp (i : Nat) (m : M D) : En → Out := fun e => match e[i]? with
  | some (some (.l _ _)) => onR (m e) fun d e' => (match e'[i]? with
    | some (some (.l p ds)) => if ds.length < 16000000 then .nx (e'.set i (some (.l p (ds ++ [d])))) else .no
    | _ => .no)
  | _ => .no
theorem small_line {n : Nat} (h : n < 16000000) : n < sizeLine := by rw [sizeLine_eq]; omega
theorem lst_at (h : e[i]? = some (some c)) (r : R K G F H σ e) {p : Bool} {ds : List D} (hc : c = .l p ds) : ∃ a xs, σ[i]? = some (some (.ref a)) ∧ F a = none ∧ H a = some (.lst xs) ∧ DnA K F xs ds := by
  subst hc
  obtain ⟨v0, s0, a0⟩ := r.at_ i _ h
  obtain ⟨a, o, xs, rfl, z1, z2, z3, z4, _⟩ := a0.own rfl
  have z3' : o = .lst xs := z3
  subst z3'
  exact ⟨a, xs, s0, z1, z2, z4⟩
theorem app_ok {m : M D} (h : tS K (sApp i m) E σ H) : tDrop (tBM K "list" rAppend (tVar i) (tCons (tF K m) tNil)) E σ H := by
  obtain ⟨G, F, e, r, hp⟩ := h
  unfold sApp at hp
  split at hp
  · rename_i p0 ds0 g0
    obtain ⟨d, e1, h1, hp⟩ := onR_inv hp
    obtain ⟨a, xs, s0, z1, z2, z4⟩ := lst_at g0 r rfl
    refine ⟨.ref a, s0, .inl ⟨rfl, _, .inl (.inl z2)⟩, G, F, e, d, e1, r, h1, fun v F1 H1 n1 hd => ?_⟩
    split at hp
    · rename_i p ds q
      by_cases hz : ds.length < 16000000
      · rw [if_pos hz] at hp
        obtain ⟨a', xs', s1, y1, y2, y4⟩ := lst_at q n1.r rfl
        rw [s0] at s1
        cases s1
        refine ⟨a, xs', v, rfl, rfl, y2, ?_, ?_⟩
        · rw [y4.len]; exact small_line hz
        · have n2 := n1.r.wr (c' := .l p (ds ++ [d])) q s0 rfl (by cases p <;> rfl) (o' := .lst (xs' ++ [v])) (xs' := xs' ++ [v]) rfl (y4.app (.cons hd .nil))
          exact hp F1 _ σ n2.r n1.go.ff
      · rw [if_neg hz] at hp
        exact hp.elim
    · exact hp.elim
  · exact hp.elim
end
end DL

namespace DL
open PySem L2 PyProof.Rows
section
variable {X : Cx} {K : PySem.W.Frag} {G : Bs} {F F1 H H1 : Hp} {σ : L2.St} {e e1 : En} {E : Ends} {v : V} {c : Ce} {d : D} {i : Nat} {a : Addr}
variable {st : Stmt} {sts : List Stmt} {ex ey ez tg : Expr} {es : List Expr} {pos pos' apos cpos : Pos} {x : Str}
theorem pds_app {m : M D} (ho : PE X ex (tVar i)) (he : PF X ey m) (hbase : attributeBase ex "append" X.env (eval ex X.env) = eval ex X.env := by rfl)
    (hfew : ((backTo cpos (starEach [ey] X.env)).all (fun x => !x.1) && (backToKw cpos (keywordEach [] X.env)).all (fun x => x.1.isSome) && decide (([ey] : List Expr).length + ([] : List Keyword).length + (if ([] : List Keyword).isEmpty then 0 else 1) < 30)) = true := by rfl)
    (hline : (apos.endLine == cpos.line) = true := by rfl) (hs : starEach [ey] X.env = (false, eval ey X.env) :: starEach [] X.env := by rfl) (hplain : (backTo cpos (starEach ([] : List Expr) X.env)).any (·.1) = false := by rfl)
    (hsw : swapsWith (.Call (.Attribute ex "append" apos) [ey] [] cpos) none pos.line X.env = pure false := by rfl) : PDS X (.Expr (.Call (.Attribute ex "append" apos) [ey] [] cpos) pos) (sApp i m) :=
  PSimp (ps_expr (pe_bm PySem.F.plainAttrs_list PySem.F.slot_list_append PySem.F.type_list_append mt_append ho (pa_cons he pa_nil hs) hbase hfew hline hs hplain) hsw) fun D σ H h => app_ok h

/-! ### targets -/
abbrev Tg := D → En → Rs En
def tgN (i : Nat) : Tg := fun d e => if ioAt e i = true then .no else .ok (e.set i (some (.f d)))
def tgAll : List Tg → List D → En → Rs En
  | [], [], e => .ok e
  | t :: ts, d :: ds, e => (t d e).bind (tgAll ts ds)
  | _, _, _ => .no
def tgT (ts : List Tg) : Tg := fun d e => match d with
  | .tuple ds => tgAll ts ds e
  | _ => .no
/-- slots besides these are as they were -/
def Chg (is : List Nat) (σ σ' : L2.St) : Prop := σ'.length = σ.length ∧ ∀ j, j ∉ is → σ'[j]? = σ[j]?
def tG (K : PySem.W.Frag) (t : Tg) (is : List Nat) : TG := fun v σ H Q => ∃ G F e d e', R K G F H σ e ∧ Dn K F v d ∧ t d e = .ok e' ∧ ∀ σ', R K G F H σ' e' → Chg is σ σ' → Q σ' H
def tGs (K : PySem.W.Frag) (ts : List Tg) (is : List Nat) : TGs := fun vs σ H Q => ∃ G F e ds e', R K G F H σ e ∧ DnA K F vs ds ∧ tgAll ts ds e = .ok e' ∧ ∀ σ', R K G F H σ' e' → Chg is σ σ' → Q σ' H
abbrev PGd (X : Cx) (tg : Expr) (t : Tg) (is : List Nat) : Prop := PG X tg (tG X.K t is)
abbrev PGds (X : Cx) (tgs : List Expr) (ts : List Tg) (is : List Nat) : Prop := PGs X tgs (tGs X.K ts is)
theorem PGsimp {tgs : List Expr} {t t' : TGs} (h : PGs X tgs t) (hi : ∀ v σ H Q, t' v σ H Q → t v σ H Q) : PGs X tgs t' := ⟨fun pins s σ H v u Q I r q => h.run pins s σ H v u Q I r (hi v σ H Q q)⟩
theorem ite_ok2 {α : Type} {b : Bool} {r : Rs α} {y : α} (h : (if b = true then .no else r) = .ok y) : b = false ∧ r = .ok y := by
  cases b with
  | true => rw [if_pos rfl] at h; cases h
  | false => rw [if_neg Bool.false_ne_true] at h; exact ⟨rfl, h⟩
theorem chg_set {i : Nat} {o : Option V} : Chg [i] σ (σ.set i o) := ⟨by simp, fun j hj => List.getElem?_set_ne (by simpa using fun z => hj (by simp [z]))⟩
theorem Chg.trans {is js : List Nat} {σ1 σ2 : L2.St} (h : Chg is σ σ1) (k : Chg js σ1 σ2) : Chg (is ++ js) σ σ2 := ⟨k.1.trans h.1, fun j hj => by
  rw [List.mem_append, not_or] at hj
  exact (k.2 j hj.2).trans (h.2 j hj.1)⟩
theorem pgd_name (hN : X.N.Nodup) (hi : X.N[i]? = some x) (hx : Loc X.env.scope x) (hf : X.fn x = true ∨ X.env.scope.names.lookup x = some .local := by first | exact .inl rfl | exact .inr rfl | assumption) : PGd X (.Name x pos) (tgN i) [i] :=
  PGimp (pg_name hN hi hx hf) fun v σ H Q ⟨G, F, e, d, e', r, hd, ht, q⟩ => by
    obtain ⟨h1, h2⟩ := ite_ok2 ht
    cases h2
    exact q _ (r.set h1 (.inl ⟨d, rfl, hd⟩)) chg_set
theorem pgds_nil : PGds X [] [] [] := PGsimp pgs_nil fun v σ H Q ⟨G, F, e, ds, e', r, hd, ht, q⟩ => by
  cases hd with
  | nil => cases ht; exact ⟨rfl, q _ r ⟨rfl, fun _ _ => rfl⟩⟩
  | cons _ _ => cases ht
theorem pgds_cons {tgs : List Expr} {t : Tg} {ts : List Tg} {is js : List Nat} (h1 : PGd X tg t is) (h2 : PGds X tgs ts js) (hs : (assignEach (tg :: tgs) X.env).map (·.2) = assign tg X.env :: (assignEach tgs X.env).map (·.2) := by rfl) : PGds X (tg :: tgs) (t :: ts) (is ++ js) :=
  PGsimp (pgs_cons h1 h2 hs) fun v σ H Q ⟨G, F, e, ds, e', r, hd, ht, q⟩ => by
    cases hd with
    | nil => cases ht
    | cons hd ha =>
      obtain ⟨e1, h3, h4⟩ := Rs.bind_eq ht
      exact ⟨_, _, rfl, G, F, e, _, e1, r, hd, h3, fun σ' r' c1 => ⟨G, F, e1, _, e', r', ha, h4, fun σ2 r2 c2 => q σ2 r2 (c1.trans c2)⟩⟩
theorem pgd_tup {tgs : List Expr} {ts : List Tg} {is : List Nat} {k n : Nat} (hc : X.calm = true) (h : PGds X tgs ts is) (hl : ts.length = n) (hn : (assignEach tgs X.env).length = n := by rfl) (hst : (assignEach tgs X.env).findIdx? (·.1) = none := by rfl) : PGd X (.Tuple tgs k pos) (tgT ts) is :=
  PGimp (pg_tup hc h hn hst) fun v σ H Q ⟨G, F, e, d, e', r, hd, ht, q⟩ => by
    unfold tgT at ht
    split at ht
    · rename_i ds
      obtain ⟨a, xs, rfl, h1, h2⟩ := hd.tuple_inv
      refine ⟨a, xs, rfl, Evl.ex_t r.fh h1, ?_, G, F, e, ds, e', r, h2, ht, q⟩
      have key : ∀ (ts : List Tg) (ds : List D) (e : En), tgAll ts ds e = .ok e' → ts.length = ds.length := by
        intro ts
        induction ts with
        | nil => intro ds e h; cases ds with
          | nil => rfl
          | cons d ds => cases h
        | cons t ts ih => intro ds e h; cases ds with
          | nil => cases h
          | cons d ds =>
            obtain ⟨e1, _, h4⟩ := Rs.bind_eq h
            rw [List.length_cons, List.length_cons, ih ds e1 h4]
      rw [h2.len, ← key ts ds e ht, hl]
    · cases ht
/-- what a target's rule does to the environment -/
def frozenAt (e : En) (i : Nat) : Bool := match e[i]? with
  | some (some c) => !c.ow
  | _ => true
structure TgOk (t : Tg) (is : List Nat) : Prop where
  ln : ∀ d e e', t d e = .ok e' → e'.length = e.length
  ne : ∀ d e e', t d e = .ok e' → ∀ j, j ∉ is → e'[j]? = e[j]?
  fz : ∀ d e e', t d e = .ok e' → ∀ j, (j ∈ is ∨ frozenAt e j = true) → frozenAt e' j = true
theorem tgOk_n (i : Nat) : TgOk (tgN i) [i] := by
  refine ⟨fun d e e' h => ?_, fun d e e' h j hj => ?_, fun d e e' h j hj => ?_⟩
  · obtain ⟨_, h⟩ := ite_ok2 h
    cases h
    simp
  · obtain ⟨_, h⟩ := ite_ok2 h
    cases h
    exact List.getElem?_set_ne (by simpa using fun z => hj (by simp [z]))
  · obtain ⟨_, h⟩ := ite_ok2 h
    cases h
    by_cases hji : j = i
    · subst hji
      unfold frozenAt
      by_cases hl : j < e.length
      · rw [List.getElem?_set_self hl]; rfl
      · rw [List.getElem?_eq_none (by simpa using Nat.le_of_not_lt hl)]
    · rcases hj with hj | hj
      · exact absurd (by simpa using hj) hji
      · unfold frozenAt at hj ⊢
        rw [List.getElem?_set_ne (Ne.symm hji)]
        exact hj
inductive TgsOk : List Tg → List Nat → Prop where
  | nil : TgsOk [] []
  | cons {t : Tg} {ts : List Tg} {is js : List Nat} : TgOk t is → TgsOk ts js → TgsOk (t :: ts) (is ++ js)
theorem TgsOk.all : ∀ {ts : List Tg} {is : List Nat}, TgsOk ts is → ∀ ds e e', tgAll ts ds e = .ok e' → e'.length = e.length ∧ (∀ j, j ∉ is → e'[j]? = e[j]?) ∧ ∀ j, (j ∈ is ∨ frozenAt e j = true) → frozenAt e' j = true
  | _, _, .nil, ds, e, e', h => by
    cases ds with
    | nil => cases h; exact ⟨rfl, fun _ _ => rfl, fun j hj => by simpa using hj⟩
    | cons d ds => cases h
  | _, _, .cons t ts, ds, e, e', h => by
    cases ds with
    | nil => cases h
    | cons d ds =>
      obtain ⟨e1, h1, h2⟩ := Rs.bind_eq h
      obtain ⟨g1, g2, g3⟩ := TgsOk.all ts ds e1 e' h2
      refine ⟨g1.trans (t.ln d e e1 h1), fun j hj => ?_, fun j hj => ?_⟩
      · rw [List.mem_append, not_or] at hj
        exact (g2 j hj.2).trans (t.ne d e e1 h1 j hj.1)
      · rw [List.mem_append] at hj
        rcases hj with (hj | hj) | hj
        · exact g3 j (.inr (t.fz d e e1 h1 j (.inl hj)))
        · exact g3 j (.inl hj)
        · exact g3 j (.inr (t.fz d e e1 h1 j (.inr hj)))
theorem tgOk_t {ts : List Tg} {is : List Nat} (h : TgsOk ts is) : TgOk (tgT ts) is := by
  have key : ∀ d e e', tgT ts d e = .ok e' → ∃ ds, tgAll ts ds e = .ok e' := fun d e e' h => by
    unfold tgT at h
    split at h
    · exact ⟨_, h⟩
    · cases h
  exact ⟨fun d e e' q => let ⟨ds, q⟩ := key d e e' q; (h.all ds e e' q).1, fun d e e' q => let ⟨ds, q⟩ := key d e e' q; (h.all ds e e' q).2.1, fun d e e' q => let ⟨ds, q⟩ := key d e e' q; (h.all ds e e' q).2.2⟩
/-- target = value, by a target's rule -/
def sTgt (t : Tg) (m : M D) : En → Out := fun e => onR (m e) fun d e' => match t d e' with
  | .ok e2 => .nx e2
  | _ => .no
theorem pds_asg {t : Tg} {is : List Nat} {m : M D} (he : PF X ex m) (hg : PGd X tg t is) (hs : swapsWithSole [tg] ex pos.line X.env = pure false := by rfl) (hw : swappedStores [tg] ex X.env = pure none := by rfl)
    (h1 : (assignEach [tg] X.env).map (·.2) = [assign tg X.env] := by rfl) : PDS X (.Assign [tg] ex pos) (sTgt t m) := PSimp (ps_asg he hg hs hw h1) fun E σ H ⟨G, F, e, r, hp⟩ => by
  obtain ⟨d, e1, h1, hp⟩ := onR_inv hp
  split at hp
  · rename_i e2 h2
    exact ⟨G, F, e, d, e1, r, h1, fun v F' H' n hd => ⟨G, F', e1, d, e2, n.r, hd, h2, fun σ' r' _ => hp F' H' σ' r' n.go.ff⟩⟩
  · exact hp.elim
/-- x, y = a, b -/
def sPar (i j : Nat) (m : M (List D)) : En → Out := fun e => onR (m e) fun ds e' => match ds with
  | [d1, d2] => if (ioAt e' i || ioAt e' j) = true then .no else .nx ((e'.set i (some (.f d1))).set j (some (.f d2)))
  | _ => .no
theorem ioAt_set {d : D} {i j : Nat} (h : ioAt e j = false) : ioAt (e.set i (some (.f d))) j = false := by
  unfold ioAt at h ⊢
  by_cases hj : j = i
  · subst hj
    by_cases hl : j < e.length
    · rw [List.getElem?_set_self hl]; rfl
    · rw [List.getElem?_eq_none (by simpa using Nat.le_of_not_lt hl)]
  · rw [List.getElem?_set_ne (Ne.symm hj)]; exact h
theorem pds_par {i j : Nat} {x y : Str} {px py pt : Pos} {kt k2 : Nat} {pt2 : Pos} {m : M (List D)} (hc : X.calm = true) (hN : X.N.Nodup) (hi : X.N[i]? = some x) (hj : X.N[j]? = some y) (hij : i ≠ j)
    (hx : X.env.scope.names.lookup x = some .local) (hy : X.env.scope.names.lookup y = some .local) (ha : PAd X [ex, ey] m)
    (hw : swappedStores [.Tuple [.Name x px, .Name y py] kt pt] (.Tuple [ex, ey] k2 pt2) X.env = pure (some [x, y]))
    (hs : swapsWithSole [.Tuple [.Name x px, .Name y py] kt pt] (.Tuple [ex, ey] k2 pt2) pos.line X.env = pure false := by rfl) : PDS X (.Assign [.Tuple [.Name x px, .Name y py] kt pt] (.Tuple [ex, ey] k2 pt2) pos) (sPar i j m) :=
  PSimp (ps_par hc hN hi hj hij hx hy ha hw hs) fun E σ H ⟨G, F, e, r, hp⟩ => by
    obtain ⟨ds, e1, h1, hp⟩ := onR_inv hp
    split at hp
    · rename_i d1 d2
      obtain ⟨h2, hp⟩ := post_ite hp
      obtain ⟨h3, h4⟩ := Bool.or_eq_false_iff.mp h2
      refine ⟨G, F, e, _, e1, r, h1, fun vs F' H' n hd => ?_⟩
      cases hd with
      | cons g1 t =>
        cases t with
        | cons g2 t =>
          cases t
          refine ⟨_, _, rfl, hp F' H' _ ?_ n.go.ff⟩
          exact (n.r.set h3 (.inl ⟨d1, rfl, g1⟩)).set (ioAt_set h4) (.inl ⟨d2, rfl, g2⟩)
    · exact hp.elim
def sPar3 (i j k : Nat) (m : M (List D)) : En → Out := fun e => onR (m e) fun ds e' => match ds with
  | [d1, d2, d3] => if (ioAt e' i || (ioAt e' j || ioAt e' k)) = true then .no else .nx (((e'.set i (some (.f d1))).set j (some (.f d2))).set k (some (.f d3)))
  | _ => .no
/-- x op= e -/
def sAug (g : D → D → Rs Ce) (i : Nat) (m : M D) : En → Out := fun e => match e[i]? with
  | some (some (.f dx)) => onR (m e) fun d e' => (match g dx d with
    | .ok (.f dz) => .nx (e'.set i (some (.f dz)))
    | _ => .no)
  | _ => .no
theorem pds_aug {op : Operator} {r : R2} {g : D → D → Rs Ce} {m : M D} (hN : X.N.Nodup) (hi : X.N[i]? = some x) (hx : Loc X.env.scope x) (he : PF X ex m) (ho : OpR X (inplaceOp op) r) (hsnd : Snd2 X.K r g) (hf : X.fn x = true ∨ X.env.scope.names.lookup x = some .local := by first | exact .inl rfl | exact .inr rfl | assumption) :
    PDS X (.AugAssign (.Name x pos') op ex pos) (sAug g i m) := PSimp (ps_aug (ti := r) hN hi hx he ho hf) fun E σ H ⟨G, F, e, rr, hp⟩ => by
  unfold sAug at hp
  split at hp
  · rename_i dx q
    obtain ⟨d, e1, h1, hp⟩ := onR_inv hp
    obtain ⟨w, s0, a0⟩ := rr.at_ i _ q
    refine ⟨w, s0, G, F, e, d, e1, rr, h1, fun v F1 H1 n hd => ?_⟩
    split at hp
    · rename_i dz hg
      refine hsnd F1 H1 w v dx d _ _ n.r.fh (.inl (n.dn a0.fz)) (.inl hd) hg fun z F2 H2 go nat => ?_
      have n2 := n.r.step go
      refine hp F2 H2 _ (n2.r.set ?_ (.inl ⟨dz, rfl, nat.fz⟩)) (n.go.ff.trans go.ff)
      -- the slot holds frozen data still
      obtain ⟨c', g1, g2⟩ := sh_at n.sh q
      unfold ioAt
      rw [g1]
      show c'.io = false
      rw [(kd_ow g2).2]
      rfl
    · exact hp.elim
  · exact hp.elim

/-! ### for -/
/-- what the walk J yields: these data, whatever grows meanwhile -/
def Wk (K : PySem.W.Frag) (J : It) (F : Hp) (ds : List D) : Prop :=
  ∀ (i : Nat) (F2 H2 : Hp), Ex F F2 → Ex F2 H2 → (∀ d, ds[i]? = some d → J.go i H2 ∧ ∀ x H3, J.yld i H2 x H3 → ∃ F3, Go F2 H2 F3 H3 noA ∧ Dn K F3 x d) ∧ (ds[i]? = none → J.stop i H2)
def tI (K : PySem.W.Frag) (m : M (List D)) : TI := fun σ H R' => ∃ G F e ds e', R K G F H σ e ∧ m e = .ok (ds, e') ∧ ∀ J F' H', Nx K G σ F H e F' H' e' → Wk K J F' ds → R' J H'
abbrev PId (X : Cx) (tg iter : Expr) (m : M (List D)) : Prop := PI X tg iter (tI X.K m)
theorem PIimp {t t' : TI} (h : PI X tg ex t) (hi : ∀ σ H Q, t' σ H Q → t σ H Q) : PI X tg ex t' := ⟨fun pins s σ H Q I q => h.run pins s σ H Q I (hi σ H Q q)⟩
def mSeq (m : M D) : M (List D) := fun e => (m e).bind fun p => match p.1 with
  | .list ds => .ok (ds, p.2)
  | .ro ds => .ok (ds, p.2)
  | _ => .no
def mSeqT (m : M D) : M (List D) := fun e => (m e).bind fun p => match p.1 with
  | .tuple ds => .ok (ds, p.2)
  | _ => .no
theorem wk_list {xs : List V} {ds : List D} (h : SqL K F a xs) (hd : DnA K F xs ds) (inj : ∀ (H : Hp) ys, Ex F H → SqL K H a ys → ys = xs) : Wk K (Itl K a) F ds := fun i F2 H2 x1 x2 => by
  have hx := x1.trans x2
  refine ⟨fun d hi => ?_, fun hi => ?_⟩
  · obtain ⟨v, h1, h2⟩ := hd.get hi
    refine ⟨⟨xs, v, Evl.ex_l hx h, h1⟩, fun x H3 y => ?_⟩
    obtain ⟨rfl, y⟩ := y
    have := y xs (Evl.ex_l hx h)
    rw [h1] at this
    cases this
    exact ⟨F2, Go.refl x2, h2.mono x1⟩
  · exact ⟨xs, Evl.ex_l hx h, by rw [hd.len]; exact List.getElem?_eq_none_iff.mp hi⟩
/-- over a list that is frozen -/
theorem pid_list {m : M D} (h : PF X ex m) : PId X tg ex (mSeq m) := PIimp (pi_list h) fun σ H Q ⟨G, F, e, ds, e', r, hm, q⟩ => by
  obtain ⟨d, e1, h1, hm⟩ := bind_ok2 hm
  simp only at hm
  have key : ∀ v F' H', Nx X.K G σ F H e F' H' e1 → e' = e1 → (∃ a xs, v = V.ref a ∧ SqL X.K F' a xs ∧ DnA X.K F' xs ds) → ∃ a, v = V.ref a ∧ (∃ xs, SqL X.K H' a xs) ∧ Q (Itl X.K a) H' := fun v F' H' n he ⟨a, xs, hv, hl, hd⟩ => by
    subst he
    refine ⟨a, hv, ⟨xs, Evl.ex_l n.r.fh hl⟩, q _ F' H' n ?_⟩
    intro i F2 H2 x1 x2
    have hx := x1.trans x2
    refine ⟨fun d hi => ?_, fun hi => ?_⟩
    · obtain ⟨w, h1, h2⟩ := hd.get hi
      refine ⟨⟨xs, w, Evl.ex_l hx hl, h1⟩, fun x H3 y => ?_⟩
      obtain ⟨rfl, y⟩ := y
      have := y xs (Evl.ex_l hx hl)
      rw [h1] at this
      cases this
      exact ⟨F2, Go.refl x2, h2.mono x1⟩
    · exact ⟨xs, Evl.ex_l hx hl, by rw [hd.len]; exact List.getElem?_eq_none_iff.mp hi⟩
  split at hm
  · cases hm
    refine ⟨G, F, e, _, _, r, h1, fun v F' H' n hn => key v F' H' n rfl ?_⟩
    obtain ⟨a, xs, q1, q2, q3⟩ := hn.list_inv
    exact ⟨a, xs, q1, SqL.of q2, q3⟩
  · cases hm
    exact ⟨G, F, e, _, _, r, h1, fun v F' H' n hn => key v F' H' n rfl hn.ro_inv⟩
  · cases hm
theorem pid_tup {m : M D} (h : PF X ex m) : PId X tg ex (mSeqT m) := PIimp (pi_tup h) fun σ H Q ⟨G, F, e, ds, e', r, hm, q⟩ => by
  obtain ⟨d, e1, h1, hm⟩ := bind_ok2 hm
  simp only at hm
  split at hm
  · cases hm
    refine ⟨G, F, e, _, _, r, h1, fun v F' H' n hn => ?_⟩
    obtain ⟨a, xs, hv, hl, hd⟩ := hn.tuple_inv
    refine ⟨a, hv, ⟨xs, Evl.ex_t n.r.fh hl⟩, q _ F' H' n ?_⟩
    intro i F2 H2 x1 x2
    have hx := x1.trans x2
    refine ⟨fun d hi => ?_, fun hi => ?_⟩
    · obtain ⟨w, h1, h2⟩ := hd.get hi
      refine ⟨⟨xs, w, Evl.ex_t hx hl, h1⟩, fun x H3 y => ?_⟩
      obtain ⟨rfl, y⟩ := y
      have := y xs (Evl.ex_t hx hl)
      rw [h1] at this
      cases this
      exact ⟨F2, Go.refl x2, h2.mono x1⟩
    · exact ⟨xs, Evl.ex_t hx hl, by rw [hd.len]; exact List.getElem?_eq_none_iff.mp hi⟩
  · cases hm
/-- lo, lo + 1, .. -/
def rgD (lo : Int) : Nat → List D
  | 0 => []
  | n + 1 => .int lo :: rgD (lo + 1) n
theorem rgD_get : ∀ (n : Nat) (lo : Int) (i : Nat), i < n → (rgD lo n)[i]? = some (.int (lo + i))
  | 0, _, _, h => absurd h (Nat.not_lt_zero _)
  | n + 1, lo, 0, _ => by simp [rgD]
  | n + 1, lo, i + 1, h => by
    rw [rgD, List.getElem?_cons_succ, rgD_get n (lo + 1) i (by omega)]
    congr 2
    omega
theorem rgD_len : ∀ (n : Nat) (lo : Int), (rgD lo n).length = n
  | 0, _ => rfl
  | n + 1, lo => by rw [rgD, List.length_cons, rgD_len n]
theorem wk_rng (lo : Int) (n : Nat) : Wk K (Itr lo n) F (rgD lo n) := fun i F2 H2 x1 x2 => by
  refine ⟨fun d hi => ?_, fun hi => ?_⟩
  · have hl : i < n := by
      have := (List.getElem?_eq_some_iff.mp hi).1
      rwa [rgD_len] at this
    refine ⟨hl, fun x H3 y => ?_⟩
    obtain ⟨rfl, rfl⟩ := y
    rw [rgD_get n lo i hl] at hi
    cases hi
    exact ⟨F2, Go.refl x2, .int _⟩
  · have := List.getElem?_eq_none_iff.mp hi
    rw [rgD_len] at this
    exact this
def mRng1 (ma : M (List D)) : M (List D) := fun e => (ma e).bind fun p => match p.1 with
  | [.int n] => if -(2 ^ 62) ≤ n ∧ n < 2 ^ 62 then .ok (rgD 0 n.toNat, p.2) else .no
  | _ => .no
def mRng2 (ma : M (List D)) : M (List D) := fun e => (ma e).bind fun p => match p.1 with
  | [.int lo, .int n] => if -(2 ^ 62) ≤ lo ∧ lo < 2 ^ 62 ∧ -(2 ^ 62) ≤ n ∧ n < 2 ^ 62 then .ok (rgD lo (n - lo).toNat, p.2) else .no
  | _ => .no
theorem pid_rng1 {p : Pos} {ma : M (List D)} (hg : Gl X "range") (hm : X.mg "range" = none) (ha : PAd X [ex] ma) (hs : starEach [ex] X.env = [(false, eval ex X.env)] := by rfl) : PId X tg (.Call (.Name "range" p) [ex] [] pos) (mRng1 ma) :=
  PIimp (pi_range1 hg hm ha hs) fun σ H Q ⟨G, F, e, ds, e', r, hm, q⟩ => by
    obtain ⟨d, e1, h1, hm⟩ := bind_ok2 hm
    simp only at hm
    split at hm
    · rename_i n
      obtain ⟨hz, hm⟩ := ite_ok hm
      cases hm
      refine ⟨G, F, e, _, _, r, h1, fun vs F' H' n' hd => ?_⟩
      cases hd with
      | cons g t =>
        cases t
        rw [g.int_inv]
        exact ⟨n, rfl, hz.1, hz.2, q _ F' H' n' (wk_rng 0 n.toNat)⟩
    · cases hm
theorem pid_rng2 {p : Pos} {ma : M (List D)} (hg : Gl X "range") (hm : X.mg "range" = none) (ha : PAd X [ex, ey] ma) (hs : starEach [ex, ey] X.env = [(false, eval ex X.env), (false, eval ey X.env)] := by rfl) (hs2 : starEach [ey] X.env = [(false, eval ey X.env)] := by rfl) : PId X tg (.Call (.Name "range" p) [ex, ey] [] pos) (mRng2 ma) :=
  PIimp (pi_range2 hg hm ha hs hs2) fun σ H Q ⟨G, F, e, ds, e', r, hm, q⟩ => by
    obtain ⟨d, e1, h1, hm⟩ := bind_ok2 hm
    simp only at hm
    split at hm
    · rename_i lo n
      obtain ⟨hz, hm⟩ := ite_ok hm
      cases hm
      refine ⟨G, F, e, _, _, r, h1, fun vs F' H' n' hd => ?_⟩
      cases hd with
      | cons g t =>
        cases t with
        | cons g2 t =>
          cases t
          rw [g.int_inv, g2.int_inv]
          exact ⟨lo, n, rfl, hz, q _ F' H' n' (wk_rng lo _)⟩
    · cases hm
def loopL (t : Tg) (b : En → Out) : List D → En → Out
  | [], e => .nx e
  | d :: ds, e => match t d e with
    | .ok e1 => (match b e1 with
      | .nx e2 => loopL t b ds e2
      | .ct e2 => loopL t b ds e2
      | .bk e2 => .nx e2
      | o => o)
    | _ => .no
def sFor (m : M (List D)) (t : Tg) (b : En → Out) : En → Out := fun e => onR (m e) fun ds e' => loopL t b ds e'
theorem for_ok {m : M (List D)} {t : Tg} {is : List Nat} {b : En → Out} (h : tS K (sFor m t b) E σ H) : tFor (tI K m) (tG K t is) (tS K b) E σ H := by
  obtain ⟨G, F, e, r, hp⟩ := h
  obtain ⟨ds, e1, h1, hp⟩ := onR_inv hp
  refine ⟨G, F, e, ds, e1, r, h1, fun J F0 H0 n wk => ?_⟩
  refine ⟨fun i m σ H => m = ds.length - i ∧ i ≤ ds.length ∧ ∃ F e, R K G F H σ e ∧ Ex F0 F ∧ Post K G F E (loopL t b (ds.drop i) e), ⟨ds.length, by omega, Nat.zero_le _, F0, e1, n.r, Evl.Ex.refl _, by rw [List.drop_zero]; exact Post.ex hp n.go.ff⟩, ?_⟩
  rintro i m σ' H' ⟨rfl, hi, F', e', r', x', hp'⟩
  obtain ⟨w1, w2⟩ := wk i F' H' x' r'.fh
  by_cases hlt : i < ds.length
  · have hd : ds[i]? = some ds[i] := List.getElem?_eq_getElem hlt
    obtain ⟨g1, g2⟩ := w1 _ hd
    rw [List.drop_eq_getElem_cons hlt] at hp'
    refine .inr ⟨g1, fun σ2 H2 => ∃ F e, R K G F H2 σ2 e ∧ Ex F0 F ∧ Post K G F E (loopL t b (ds.drop (i + 1)) e), fun σ2 H2 q => ⟨ds.length - (i + 1), by omega, rfl, hlt, q⟩, fun x H3 y => ?_⟩
    obtain ⟨F3, go, hx⟩ := g2 x H3 y
    have n3 := r'.step go
    unfold loopL at hp'
    split at hp'
    · rename_i e2 ht
      refine ⟨G, F3, e', _, e2, n3.r, hx, ht, fun σ4 r4 _ => ⟨G, F3, e2, r4, ?_⟩⟩
      cases hb : b e2 with
      | nx e3 =>
        rw [hb] at hp'
        exact fun F5 H5 σ5 r5 x5 => ⟨F5, e3, r5, (x'.trans go.ff).trans x5, Post.ex hp' (go.ff.trans x5)⟩
      | ct e3 =>
        rw [hb] at hp'
        exact fun F5 H5 σ5 r5 x5 => ⟨F5, e3, r5, (x'.trans go.ff).trans x5, Post.ex hp' (go.ff.trans x5)⟩
      | bk e3 =>
        rw [hb] at hp'
        exact fun F5 H5 σ5 r5 x5 => hp' F5 H5 σ5 r5 (go.ff.trans x5)
      | rt c e3 =>
        rw [hb] at hp'
        exact fun v F5 H5 σ5 r5 x5 q => hp' v F5 H5 σ5 r5 (go.ff.trans x5) q
      | ex n ds => rw [hb] at hp'; exact hp'.elim
      | no => rw [hb] at hp'; exact hp'.elim
    · exact hp'.elim
  · have e2 : i = ds.length := by omega
    subst e2
    rw [List.drop_length] at hp'
    exact .inl ⟨w2 (List.getElem?_eq_none (Nat.le_refl _)), hp' F' H' σ' r' (Evl.Ex.refl _)⟩
theorem pds_for {m : M (List D)} {t : Tg} {is : List Nat} {b : En → Out} (hp : PassesOwn (model X.prog X.w) X.A X.env X.xe) (hc : X.calm = true) (hi : PId X tg ex m) (hg : PGd X tg t is) (hb : PDs X sts b) (hs : ∀ x, foldedSetIterable ex X.env x = pure x := by intro _; rfl) :
    PDS X (.For tg ex sts [] pos) (sFor m t b) := PSimp (ps_for hp hc hi hg hb hs) fun D σ H h => for_ok h

/-! ### while -/
def wN (t : M Bool) (b : En → Out) : Nat → En → Out
  | 0, _ => .no
  | n + 1, e => match t e with
    | .ok (true, e1) => (match b e1 with
      | .nx e2 => wN t b n e2
      | .ct e2 => wN t b n e2
      | .bk e2 => .nx e2
      | o => o)
    | .ok (false, e1) => .nx e1
    | .ex n ds => .ex n ds
    | .no => .no
theorem wN_mono {t : M Bool} {b : En → Out} : ∀ (n : Nat) (e : En), wN t b n e ≠ .no → wN t b (n + 1) e = wN t b n e
  | 0, e, h => absurd rfl h
  | n + 1, e, h => by
    show wN t b (n + 1 + 1) e = wN t b (n + 1) e
    have e1 : ∀ k, wN t b (k + 1) e = (match t e with
      | .ok (true, e1) => (match b e1 with
        | .nx e2 => wN t b k e2
        | .ct e2 => wN t b k e2
        | .bk e2 => .nx e2
        | o => o)
      | .ok (false, e1) => .nx e1
      | .ex n ds => .ex n ds
      | .no => .no) := fun k => rfl
    rw [e1 n] at h
    rw [e1 (n + 1), e1 n]
    cases ht : t e with
    | ex _ _ => rfl
    | no => rfl
    | ok p =>
      obtain ⟨c, e2⟩ := p
      rw [ht] at h
      cases c with
      | false => rfl
      | true =>
        simp only at h ⊢
        cases hb : b e2 with
        | nx e3 => rw [hb] at h; exact wN_mono n e3 h
        | ct e3 => rw [hb] at h; exact wN_mono n e3 h
        | bk e3 => rfl
        | rt c e3 => rfl
        | ex _ _ => rfl
        | no => rfl
theorem wN_le {t : M Bool} {b : En → Out} {n : Nat} {e : En} (h : wN t b n e ≠ .no) : ∀ k, wN t b (n + k) e = wN t b n e
  | 0 => rfl
  | k + 1 => by
    have ih := wN_le h k
    show wN t b (n + k + 1) e = _
    rw [wN_mono (n + k) e (by rw [ih]; exact h), ih]
open Classical in
noncomputable def sWhile (t : M Bool) (b : En → Out) : En → Out := fun e => if h : ∃ n, wN t b n e ≠ .no then wN t b h.choose e else .no
theorem sWhile_at {t : M Bool} {b : En → Out} {n : Nat} {e : En} (h : wN t b n e ≠ .no) : sWhile t b e = wN t b n e := by
  unfold sWhile
  have hx : ∃ n, wN t b n e ≠ .no := ⟨n, h⟩
  rw [dif_pos hx]
  have h1 := wN_le hx.choose_spec n
  have h2 := wN_le h hx.choose
  rw [← h1, ← h2, Nat.add_comm]
/-- the unfolding -/
theorem sWhile_eq (t : M Bool) (b : En → Out) (e : En) : sWhile t b e = (match t e with
    | .ok (true, e1) => (match b e1 with
      | .nx e2 => sWhile t b e2
      | .ct e2 => sWhile t b e2
      | .bk e2 => .nx e2
      | o => o)
    | .ok (false, e1) => .nx e1
    | .ex n ds => .ex n ds
    | .no => .no) := by
  have e1 : ∀ k, wN t b (k + 1) e = (match t e with
    | .ok (true, e1) => (match b e1 with
      | .nx e2 => wN t b k e2
      | .ct e2 => wN t b k e2
      | .bk e2 => .nx e2
      | o => o)
    | .ok (false, e1) => .nx e1
    | .ex n ds => .ex n ds
    | .no => .no) := fun k => rfl
  cases ht : t e with
  | ex m ds =>
    have := e1 0
    rw [ht] at this
    exact (sWhile_at (n := 1) (by rw [this]; intro z; cases z)).trans this
  | no =>
    show sWhile t b e = .no
    unfold sWhile
    rw [dif_neg]
    rintro ⟨n, hn⟩
    cases n with
    | zero => exact hn rfl
    | succ n => rw [e1 n, ht] at hn; exact hn rfl
  | ok p =>
    obtain ⟨c, e2⟩ := p
    cases c with
    | false =>
      have := e1 0
      rw [ht] at this
      exact (sWhile_at (n := 1) (by rw [this]; intro z; cases z)).trans this
    | true =>
      simp only
      have go : ∀ e3, (∀ k, wN t b (k + 1) e = wN t b k e3) → sWhile t b e = sWhile t b e3 := fun e3 hk => by
        by_cases hx : ∃ n, wN t b n e3 ≠ .no
        · obtain ⟨n, hn⟩ := hx
          rw [sWhile_at hn, sWhile_at (n := n + 1) (by rw [hk n]; exact hn), hk n]
        · have hy : ¬ ∃ n, wN t b n e ≠ .no := fun ⟨n, hn⟩ => by
            cases n with
            | zero => exact hn rfl
            | succ n => exact hx ⟨n, by rw [← hk n]; exact hn⟩
          unfold sWhile
          rw [dif_neg hx, dif_neg hy]
      cases hb : b e2 with
      | nx e3 => exact go e3 fun k => by rw [e1 k, ht]; simp only [hb]
      | ct e3 => exact go e3 fun k => by rw [e1 k, ht]; simp only [hb]
      | bk e3 =>
        have := e1 0
        rw [ht] at this
        simp only [hb] at this
        exact (sWhile_at (n := 1) (by rw [this]; intro z; cases z)).trans this
      | rt c e3 =>
        have := e1 0
        rw [ht] at this
        simp only [hb] at this
        exact (sWhile_at (n := 1) (by rw [this]; intro z; cases z)).trans this
      | ex m ds =>
        have := e1 0
        rw [ht] at this
        simp only [hb] at this
        exact (sWhile_at (n := 1) (by rw [this]; intro z; cases z)).trans this
      | no =>
        show sWhile t b e = .no
        unfold sWhile
        rw [dif_neg]
        rintro ⟨n, hn⟩
        cases n with
        | zero => exact hn rfl
        | succ n =>
          rw [e1 n, ht] at hn
          simp only [hb] at hn
          exact hn rfl
theorem while_ok {t : M Bool} {b : En → Out} (h : tS K (sWhile t b) E σ H) : tWhile (tT K t) (tS K b) E σ H := by
  obtain ⟨G, F0, e0, r0, hp0⟩ := h
  have hx : ∃ n, wN t b n e0 ≠ .no := by
    by_cases hx : ∃ n, wN t b n e0 ≠ .no
    · exact hx
    · unfold sWhile at hp0
      rw [dif_neg hx] at hp0
      exact hp0.elim
  obtain ⟨n0, hn0⟩ := hx
  rw [sWhile_at hn0] at hp0
  refine ⟨fun n σ H => ∃ F e, R K G F H σ e ∧ Ex F0 F ∧ Post K G F E (wN t b n e), ⟨n0, F0, e0, r0, Evl.Ex.refl _, hp0⟩, ?_⟩
  rintro n σ1 H1 ⟨F1, e1, r1, x1, hp⟩
  cases n with
  | zero => exact hp.elim
  | succ n =>
    unfold wN at hp
    split at hp
    · rename_i e2 ht
      refine ⟨G, F1, e1, true, e2, r1, ht, fun F' H' nx => ?_⟩
      refine (if_pos rfl).mpr ⟨fun σ H => ∃ F e, R K G F H σ e ∧ Ex F0 F ∧ Post K G F E (wN t b n e), fun σ' H' q => ⟨n, Nat.lt_succ_self n, q⟩, G, F', e2, nx.r, ?_⟩
      cases hb : b e2 with
      | nx e3 =>
        rw [hb] at hp
        exact fun F5 H5 σ5 r5 x5 => ⟨F5, e3, r5, (x1.trans nx.go.ff).trans x5, Post.ex hp (nx.go.ff.trans x5)⟩
      | ct e3 =>
        rw [hb] at hp
        exact fun F5 H5 σ5 r5 x5 => ⟨F5, e3, r5, (x1.trans nx.go.ff).trans x5, Post.ex hp (nx.go.ff.trans x5)⟩
      | bk e3 =>
        rw [hb] at hp
        exact fun F5 H5 σ5 r5 x5 => hp F5 H5 σ5 r5 (nx.go.ff.trans x5)
      | rt c e3 =>
        rw [hb] at hp
        exact fun v F5 H5 σ5 r5 x5 q => hp v F5 H5 σ5 r5 (nx.go.ff.trans x5) q
      | ex n ds => rw [hb] at hp; exact hp.elim
      | no => rw [hb] at hp; exact hp.elim
    · rename_i e2 ht
      refine ⟨G, F1, e1, false, e2, r1, ht, fun F' H' nx => ?_⟩
      exact (if_neg Bool.false_ne_true).mpr (hp F' H' σ1 nx.r nx.go.ff)
    · exact hp.elim
    · exact hp.elim
theorem pds_while {t : M Bool} {b : En → Out} (hp : PassesOwn (model X.prog X.w) X.A X.env X.xe) (hc : PTd X ex t) (hb : PDs X sts b) : PDS X (.While ex sts [] pos) (sWhile t b) := PSimp (ps_while hp hc hb) fun D σ H h => while_ok h
end
end DL

namespace DL
open PySem L2 PyProof.Rows

/-! ### what a def promises -/
abbrev Sf := List Ce → Rs (Ce × List Ce)
inductive CsAt (K : PySem.W.Frag) (F H : Hp) : Nat → List Ce → List V → List (Nat × Addr) → Prop where
  | nil {n : Nat} : CsAt K F H n [] [] []
  | f {n : Nat} {v : V} {d : D} {cs : List Ce} {vs : List V} {io : List (Nat × Addr)} : Dn K F v d → CsAt K F H (n + 1) cs vs io → CsAt K F H n (.f d :: cs) (v :: vs) io
  | o {n : Nat} {a : Addr} {c : Ce} {o : HO} {xs : List V} {cs : List Ce} {vs : List V} {io : List (Nat × Addr)} : c.io = true → F a = none → H a = some o → CeO o c xs → DnA K F xs c.mem → CsAt K F H (n + 1) cs vs io →
      CsAt K F H n (c :: cs) (.ref a :: vs) ((n, a) :: io)
inductive OutAt (K : PySem.W.Frag) (F H : Hp) : List Addr → List Ce → Prop where
  | nil : OutAt K F H [] []
  | cons {a : Addr} {c : Ce} {o : HO} {xs : List V} {as : List Addr} {cs : List Ce} : F a = none → H a = some o → CeO o c xs → DnA K F xs c.mem → OutAt K F H as cs → OutAt K F H (a :: as) (c :: cs)
def spD (K : PySem.W.Frag) (S : Sf) : Sp := fun vs H Q _ => ∃ F cs c outs io, Ex F H ∧ CsAt K F H 0 cs vs io ∧ (io.map (·.2)).Nodup ∧ S cs = .ok (c, outs) ∧
  ∀ v F' H', Go F H F' H' (· ∈ io.map (·.2)) → NAt K H F' H' c v → OutAt K F' H' (io.map (·.2)) outs → Q v H'
def owIx : Nat → List Ce → List Nat
  | _, [] => []
  | n, c :: cs => match c with
    | .f _ => owIx (n + 1) cs
    | _ => n :: owIx (n + 1) cs
def outsAt : List Nat → En → Rs (List Ce)
  | [], _ => .ok []
  | i :: is, e => match e[i]? with
    | some (some c) => if c.io = true then (outsAt is e).bind fun cs => .ok (c :: cs) else .no
    | _ => .no
def startE (n : Nat) (cs : List Ce) : En := cs.map some ++ List.replicate (n - cs.length) none
def runD (n : Nat) (m : En → Out) (cs : List Ce) : Rs (Ce × List Ce) := match m (startE n cs) with
  | .rt c e => (outsAt (owIx 0 cs) e).bind fun os => .ok (c, os)
  | .nx e => (outsAt (owIx 0 cs) e).bind fun os => .ok (.f .none, os)
  | .ex n ds => .ex n ds
  | _ => .no
section
variable {K : PySem.W.Frag} {F H F' H' : Hp}
theorem CsAt.len : ∀ {n : Nat} {cs : List Ce} {vs : List V} {io : List (Nat × Addr)}, CsAt K F H n cs vs io → cs.length = vs.length
  | _, _, _, _, .nil => rfl
  | _, _, _, _, .f _ t => congrArg (· + 1) (CsAt.len t)
  | _, _, _, _, .o _ _ _ _ _ t => congrArg (· + 1) (CsAt.len t)
theorem CsAt.ix : ∀ {n : Nat} {cs : List Ce} {vs : List V} {io : List (Nat × Addr)}, CsAt K F H n cs vs io → io.map (·.1) = owIx n cs
  | _, _, _, _, .nil => rfl
  | _, _, _, _, .f _ t => by unfold owIx; exact CsAt.ix t
  | _, _, _, _, .o (c := c) h _ _ ho _ t => by
    cases c with
    | f d => exact ho.elim
    | l p ds => unfold owIx; rw [List.map_cons, CsAt.ix t]
    | k p t0 ks vs => unfold owIx; rw [List.map_cons, CsAt.ix t]
theorem CsAt.le : ∀ {n : Nat} {cs : List Ce} {vs : List V} {io : List (Nat × Addr)}, CsAt K F H n cs vs io → ∀ p ∈ io, n ≤ p.1
  | _, _, _, _, .nil, _, h => nomatch h
  | _, _, _, _, .f _ t, p, h => by have := CsAt.le t p h; omega
  | _, _, _, _, .o _ _ _ _ _ t, p, h => by
    rcases List.mem_cons.mp h with rfl | h
    · exact Nat.le_refl _
    · have := CsAt.le t p h; omega
/-- what a parameter's slot holds at the entry -/
theorem CsAt.at : ∀ {n : Nat} {cs : List Ce} {vs : List V} {io : List (Nat × Addr)}, CsAt K F H n cs vs io → ∀ (i : Nat) (c : Ce), cs[i]? = some c → ∃ v, vs[i]? = some v ∧
    ((∃ d, c = .f d ∧ Dn K F v d) ∨ ∃ a o xs, v = .ref a ∧ c.io = true ∧ F a = none ∧ H a = some o ∧ CeO o c xs ∧ DnA K F xs c.mem ∧ (n + i, a) ∈ io)
  | _, _, _, _, .nil, i, c, h => by simp at h
  | _, _, _, _, .f hd t, 0, c, h => by
    simp at h
    subst h
    exact ⟨_, by simp, .inl ⟨_, rfl, hd⟩⟩
  | n, _, _, _, .f hd t, i + 1, c, h => by
    simp at h
    obtain ⟨v, h1, h2⟩ := CsAt.at t i c h
    refine ⟨v, by simpa using h1, ?_⟩
    rcases h2 with h2 | ⟨a, o, xs, q1, q2, q3, q4, q5, q6, q7⟩
    · exact .inl h2
    · exact .inr ⟨a, o, xs, q1, q2, q3, q4, q5, q6, by rw [show n + (i + 1) = n + 1 + i by omega]; exact q7⟩
  | n, _, _, _, .o h1 h2 h3 h4 h5 t, 0, c, h => by
    simp at h
    subst h
    exact ⟨_, by simp, .inr ⟨_, _, _, rfl, h1, h2, h3, h4, h5, by simp⟩⟩
  | n, _, _, _, .o h1 h2 h3 h4 h5 t, i + 1, c, h => by
    simp at h
    obtain ⟨v, g1, g2⟩ := CsAt.at t i c h
    refine ⟨v, by simpa using g1, ?_⟩
    rcases g2 with h2 | ⟨a, o, xs, q1, q2, q3, q4, q5, q6, q7⟩
    · exact .inl h2
    · exact .inr ⟨a, o, xs, q1, q2, q3, q4, q5, q6, List.mem_cons_of_mem _ (by rw [show n + (i + 1) = n + 1 + i by omega]; exact q7)⟩
theorem CsAt.ios : ∀ {n : Nat} {cs : List Ce} {vs : List V} {io : List (Nat × Addr)}, CsAt K F H n cs vs io → ∀ p ∈ io, ∃ i, p.1 = n + i ∧ vs[i]? = some (.ref p.2) ∧ ∃ c, cs[i]? = some c ∧ c.io = true
  | _, _, _, _, .nil, _, h => nomatch h
  | n, _, _, _, .f _ t, p, h => by
    obtain ⟨i, h1, h2, c, h3, h4⟩ := CsAt.ios t p h
    exact ⟨i + 1, by omega, by simpa using h2, c, by simpa using h3, h4⟩
  | n, _, _, _, .o q _ _ _ _ t, p, h => by
    rcases List.mem_cons.mp h with rfl | h
    · exact ⟨0, rfl, by simp, _, by simp, q⟩
    · obtain ⟨i, h1, h2, c, h3, h4⟩ := CsAt.ios t p h
      exact ⟨i + 1, by omega, by simpa using h2, c, by simpa using h3, h4⟩
theorem nd_snd {io : List (Nat × Addr)} (h : (io.map (·.2)).Nodup) {i j : Nat} {a : Addr} (h1 : (i, a) ∈ io) (h2 : (j, a) ∈ io) : i = j := by
  induction io with
  | nil => cases h1
  | cons p io ih =>
    rw [List.map_cons, List.nodup_cons] at h
    rcases List.mem_cons.mp h1 with e1 | h1'
    · rcases List.mem_cons.mp h2 with e2 | h2'
      · rw [← e2] at e1
        exact congrArg Prod.fst e1
      · exfalso
        apply h.1
        rw [← e1]
        exact List.mem_map_of_mem (f := (·.2)) h2'
    · rcases List.mem_cons.mp h2 with e2 | h2'
      · exfalso
        apply h.1
        rw [← e2]
        exact List.mem_map_of_mem (f := (·.2)) h1'
      · exact ih h.2 h1' h2'
theorem start_at {N : List Str} {vs : List V} {i : Nat} {v : V} (h : vs[i]? = some v) : (L2.start N vs)[i]? = some (some v) := by
  unfold L2.start
  have hl : i < vs.length := (List.getElem?_eq_some_iff.mp h).1
  rw [List.getElem?_append_left (by simpa using hl), List.getElem?_map, h]
  rfl
theorem startE_at {n i : Nat} {cs : List Ce} {c : Ce} (h : (startE n cs)[i]? = some (some c)) : cs[i]? = some c := by
  unfold startE at h
  by_cases hl : i < cs.length
  · rw [List.getElem?_append_left (by simpa using hl), List.getElem?_map] at h
    cases q : cs[i]? with
    | none => rw [q] at h; cases h
    | some c' => rw [q] at h; simpa using h
  · rw [List.getElem?_append_right (by simpa using Nat.le_of_not_lt hl)] at h
    have := List.mem_of_getElem? h
    rw [List.mem_replicate] at this
    cases this.2
/-- the state at the entry -/
theorem R.start {N : List Str} {cs : List Ce} {vs : List V} {io : List (Nat × Addr)} (e : Ex F H) (h : CsAt K F H 0 cs vs io) (hn : (io.map (·.2)).Nodup) (hN : vs.length ≤ N.length) : R K ⟨F, H, io⟩ F H (L2.start N vs) (startE N.length cs) := by
  refine ⟨Go.refl e, e, fun i c q => ?_, fun i j c c' a hij h1 h2 o1 o2 s1 s2 => ?_, fun p hp => ?_, ?_⟩
  · obtain ⟨v, h1, h2⟩ := h.at i c (startE_at q)
    refine ⟨v, start_at h1, ?_⟩
    rcases h2 with h2 | ⟨a, o, xs, rfl, q2, q3, q4, q5, q6, q7⟩
    · exact .inl h2
    · exact .inr ⟨a, o, xs, rfl, q3, q4, q5, q6, fun _ => by simpa using q7, fun z => by rw [q2] at z; cases z⟩
  · obtain ⟨v, g1, g2⟩ := h.at i c (startE_at h1)
    obtain ⟨v', g1', g2'⟩ := h.at j c' (startE_at h2)
    rw [start_at g1] at s1
    rw [start_at g1'] at s2
    cases s1
    cases s2
    rcases g2 with ⟨d, rfl, _⟩ | ⟨b, o, xs, q1, q2, q3, q4, q5, q6, q7⟩
    · cases o1
    · rcases g2' with ⟨d, rfl, _⟩ | ⟨b', o', xs', r1, r2, r3, r4, r5, r6, r7⟩
      · cases o2
      · cases q1
        cases r1
        exact hij (by simpa using nd_snd hn q7 r7)
  · obtain ⟨i, h1, h2, c, h3, h4⟩ := h.ios p hp
    have e1 : p.1 = i := by omega
    refine ⟨by rw [e1]; exact start_at h2, c, ?_, h4⟩
    rw [e1]
    unfold startE
    have hl : i < cs.length := (List.getElem?_eq_some_iff.mp h3).1
    rw [List.getElem?_append_left (by simpa using hl), List.getElem?_map, h3]
    rfl
  · have := h.len
    unfold startE L2.start
    simp
    omega
/-- what was handed in, at the end -/
theorem R.outs {G : Bs} {σ : L2.St} {e : En} (r : R K G F H σ e) : ∀ (io : List (Nat × Addr)) (os : List Ce), (∀ p ∈ io, p ∈ G.io) → outsAt (io.map (·.1)) e = .ok os → OutAt K F H (io.map (·.2)) os
  | [], os, _, h => by cases h; exact .nil
  | p :: io, os, hp, h => by
    rw [List.map_cons] at h
    unfold outsAt at h
    split at h
    · rename_i c q
      obtain ⟨hio, h⟩ := ite_ok h
      obtain ⟨cs, h1, h2⟩ := Rs.bind_eq h
      cases h2
      obtain ⟨v, g1, g2⟩ := r.at_ p.1 c q
      have := (r.io p (hp p List.mem_cons_self)).1
      rw [this] at g1
      cases g1
      rcases g2 with ⟨d, rfl, _⟩ | ⟨b, o, xs, q1, q2, q3, q4, q5, _⟩
      · cases hio
      · cases q1
        rw [List.map_cons]
        exact .cons q2 q3 q4 q5 (R.outs r io cs (fun p' hp' => hp p' (List.mem_cons_of_mem _ hp')) h1)
    · cases h
end
/-- a def's body in its context -/
abbrev XX (P : Program) (w : World) (K : PySem.W.Frag) (mg : Str → Option Value) (base : Heap) (N : List Str) (qual : Str) (sc : Scope) (f : Addr) (cdv : Value) (A : Around) (outer : List PySem.Env) (s : Shared) (H : Hp) (E : XK) : Cx :=
  (cxOf CX0 P w K mg base N qual sc f cdv A outer s H E).nox
section
variable {P : Program} {w : World} {K : PySem.W.Frag} {mg : Str → Option Value} {base : Heap}
abbrev FnD (P : Program) (w : World) (K : PySem.W.Frag) (mg : Str → Option Value) (base : Heap) (k : Nat) (f : Addr) (fd : FuncData) (ps : List Str) (S : Sf) : Prop := FnOk P w K mg base CX0 k f fd ps (spD K S)
theorem fnD_ok {x qual : Str} {st : Stmt} {f : Addr} {fd : FuncData} {N ps : List Str} {k : Nat} {S : Sf} (F : Fun K x qual st f fd) (Sc : FnScope N ps (defScope st)) (hN : ps.length ≤ N.length) (m : En → Out)
    (hb : ∀ (cdv : Value) (A : Around) (outer : List PySem.Env) (s : Shared) (H : Hp) (E : XK), Room k (A.deeper (envOfC qual (defScope st) s.heap.objs.size f cdv)) → PDs (XX P w K mg base N qual (defScope st) f cdv A outer s H E) (defBody st) m)
    (hS : ∀ cs c outs, S cs = .ok (c, outs) → cs.length = ps.length ∧ runD N.length m cs = .ok (c, outs)) : FnD P w K mg base (k + 1) f fd ps S := by
  refine F.ok Sc (fun vs H Q E h => ?_) (fun cdv A outer s H vs Q E hr h => ?_)
  · obtain ⟨F0, cs, c, outs, io, _, h1, _, h2, _⟩ := h
    rw [← h1.len]
    exact (hS cs c outs h2).1
  · obtain ⟨F0, cs, c, outs, io, he, h1, hn, h2, q⟩ := h
    obtain ⟨hl, hm⟩ := hS cs c outs h2
    refine ⟨_, hb cdv A outer s H E hr, ⟨F0, H, io⟩, F0, startE N.length cs, R.start he h1 hn (by rw [← h1.len, hl]; exact hN), ?_⟩
    unfold runD at hm
    have gms : ∀ b, Bs.ms ⟨F0, H, io⟩ b → b ∈ io.map (·.2) := fun b ⟨i, hi⟩ => List.mem_map_of_mem (f := (·.2)) hi
    split at hm
    · rename_i c' e' hq
      obtain ⟨os, g1, g2⟩ := Rs.bind_eq hm
      cases g2
      rw [hq]
      intro v F' H' σ' r x rt
      rw [← h1.ix] at g1
      exact q v F' H' (r.go.mono gms) rt (r.outs io _ (fun _ h => h) g1)
    · rename_i e' hq
      obtain ⟨os, g1, g2⟩ := Rs.bind_eq hm
      cases g2
      rw [hq]
      intro F' H' σ' r x
      rw [← h1.ix] at g1
      exact q .non F' H' (r.go.mono gms) (.inl ⟨_, rfl, .non⟩) (r.outs io _ (fun _ h => h) g1)
    · cases hm
    · cases hm
theorem FnD.imp {k : Nat} {f : Addr} {fd : FuncData} {ps : List Str} {S S' : Sf} (F : FnD P w K mg base k f fd ps S) (h : ∀ cs r, S' cs = .ok r → S cs = .ok r) : FnD P w K mg base k f fd ps S' :=
  FnOk.imp F fun vs H Q E ⟨F0, cs, c, outs, io, h1, h2, h3, h4, h5⟩ => ⟨F0, cs, c, outs, io, h1, h2, h3, h _ _ h4, h5⟩
end

/-! ### a call -/
/-- an argument: data, or a slot whose object the callee may change -/
inductive Ag where
  | d (d : D) | s (i : Nat)
def AgAt (K : PySem.W.Frag) (σ : L2.St) (F : Hp) (e : En) : Ag → V → Prop
  | .d d, v => Dn K F v d
  | .s i, v => σ[i]? = some (some v) ∧ ∃ c : Ce, e[i]? = some (some c) ∧ c.ow = true
inductive AgsAt (K : PySem.W.Frag) (σ : L2.St) (F : Hp) (e : En) : List Ag → List V → Prop where
  | nil : AgsAt K σ F e [] []
  | cons {a : Ag} {as : List Ag} {v : V} {vs : List V} : AgAt K σ F e a v → AgsAt K σ F e as vs → AgsAt K σ F e (a :: as) (v :: vs)
def tAg (K : PySem.W.Frag) (m : M (List Ag)) : TA := fun σ H Q => ∃ G F e as e', R K G F H σ e ∧ m e = .ok (as, e') ∧ ∀ vs F' H', Nx K G σ F H e F' H' e' → AgsAt K σ F' e' as vs → Q vs H'
abbrev PAg (X : Cx) (es : List Expr) (m : M (List Ag)) : Prop := PA X es (tAg X.K m)
def aD (m : M D) : M Ag := fun e => (m e).bind fun p => .ok (.d p.1, p.2)
def aS (i : Nat) : M Ag := fun e => match e[i]? with
  | some (some c) => if c.ow = true then .ok (.s i, e) else .no
  | _ => .no
def agCells : List Ag → En → Rs (List Ce)
  | [], _ => .ok []
  | .d d :: as, e => (agCells as e).bind fun cs => .ok (.f d :: cs)
  | .s i :: as, e => match e[i]? with
    | some (some c) => (agCells as e).bind fun cs => .ok (c.lent :: cs)
    | _ => .no
def agSlots : List Ag → List Nat
  | [] => []
  | .d _ :: as => agSlots as
  | .s i :: as => i :: agSlots as
def putBack : List Nat → List Ce → En → Rs En
  | [], [], e => .ok e
  | i :: is, c :: cs, e => match e[i]?, c with
    | some (some (.l p _)), .l _ ds => putBack is cs (e.set i (some (.l p ds)))
    | some (some (.k p t _ _)), .k _ t' ks vs => if t = t' then putBack is cs (e.set i (some (.k p t' ks vs))) else .no
    | _, _ => .no
  | _, _, _ => .no
def mCall (S : Sf) (ma : M (List Ag)) : M Ce := fun e => (ma e).bind fun p => (agCells p.1 p.2).bind fun cs => if (agSlots p.1).Nodup then (S cs).bind fun r => (putBack (agSlots p.1) r.2 p.2).bind fun e' => .ok (r.1, e') else .no
section
variable {X : Cx} {K : PySem.W.Frag} {G : Bs} {F F1 H H1 F2 H2 : Hp} {σ : L2.St} {e e1 : En} {v : V} {c : Ce} {d : D} {i : Nat} {a : Addr}
variable {ex ey : Expr} {es : List Expr} {pos p : Pos} {x : Str}
theorem AgAt.nx {g : Ag} (n : Nx K G σ F H e F1 H1 e1) (h : AgAt K σ F e g v) : AgAt K σ F1 e1 g v := by
  cases g with
  | d d => exact n.dn h
  | s i =>
    obtain ⟨h1, c, h2, h3⟩ := h
    obtain ⟨c', h4, h5⟩ := sh_at n.sh h2
    exact ⟨h1, c', h4, by rw [(kd_ow h5).1]; exact h3⟩
theorem pag_nil : PAg X [] aNil := PAimp pa_nil fun σ H Q ⟨G, F, e, d, e', r, hm, q⟩ => by
  cases hm
  exact q [] F H (Nx.refl r) .nil
theorem pag_cons {m : M D} {ms : M (List Ag)} (ha : PF X ex m) (hr : PAg X es ms) (hs : starEach (ex :: es) X.env = (false, eval ex X.env) :: starEach es X.env := by rfl) : PAg X (ex :: es) (aCons (aD m) ms) := PAimp (pa_cons ha hr hs) fun σ H Q ⟨G, F, e, d, e', r, hm, q⟩ => by
  obtain ⟨x, e1, h1, hm⟩ := bind_ok2 hm
  obtain ⟨y, e2, h2, hm⟩ := bind_ok2 hm
  cases hm
  obtain ⟨d, e3, h3, h4⟩ := bind_ok2 h1
  cases h4
  exact ⟨G, F, e, d, _, r, h3, fun v F1 H1 n1 hd => ⟨G, F1, _, y, e2, n1.r, h2, fun vs F2 H2 n2 hds => q (v :: vs) F2 H2 (n1.trans n2) (.cons (n2.dn hd) hds)⟩⟩
theorem pag_conS {ms : M (List Ag)} (ha : PE X ex (tVar i)) (hr : PAg X es ms) (hs : starEach (ex :: es) X.env = (false, eval ex X.env) :: starEach es X.env := by rfl) : PAg X (ex :: es) (aCons (aS i) ms) := PAimp (pa_cons ha hr hs) fun σ H Q ⟨G, F, e, d, e', r, hm, q⟩ => by
  obtain ⟨x, e1, h1, hm⟩ := bind_ok2 hm
  obtain ⟨y, e2, h2, hm⟩ := bind_ok2 hm
  cases hm
  unfold aS at h1
  split at h1
  · rename_i c hc
    obtain ⟨ho, h1⟩ := ite_ok h1
    cases h1
    obtain ⟨v, g1, g2⟩ := r.at_ i c hc
    refine ⟨v, g1, G, F, _, y, e2, r, h2, fun vs F2 H2 n2 hds => q (v :: vs) F2 H2 n2 (.cons ?_ hds)⟩
    exact AgAt.nx (g := .s i) n2 ⟨g1, c, hc, ho⟩
  · cases h1
/-- the state goes on, the slots as told -/
theorem R.next (r : R K G F H σ e) (go : Go F H F1 H1 (Lv σ e)) (sh : e1.map (Option.map Ce.kd) = e.map (Option.map Ce.kd)) (hat : ∀ (i : Nat) (c : Ce), e1[i]? = some (some c) → ∃ v, σ[i]? = some (some v) ∧ At K G F1 H1 i c v) : Nx K G σ F H e F1 H1 e1 := by
  refine ⟨⟨?_, r.ba, hat, fun i j c c' a hij h1 h2 o1 o2 s1 => ?_, fun p hp => ?_, ?_⟩, go, sh⟩
  · refine ⟨r.go.ff.trans go.ff, fun b o hb hn => ?_, go.fh, fun b h1 h2 => ?_⟩
    · refine go.hh b o (r.go.hh b o hb hn) fun ⟨i, c, h1, h2, h3⟩ => ?_
      obtain ⟨v, g1, g2⟩ := r.at_ i c h1
      rw [h3] at g1
      cases g1
      obtain ⟨a, u, xs, q, _, _, _, _, q5, q6⟩ := g2.own h2
      cases q
      cases hio : c.io with
      | true => exact hn ⟨i, q5 hio⟩
      | false => rw [q6 hio] at hb; cases hb
    · obtain ⟨p, q⟩ := r.go.st b h1 h2
      exact go.st b p q
  · obtain ⟨d1, g1, w1⟩ := sh_at sh.symm h1
    obtain ⟨d2, g2, w2⟩ := sh_at sh.symm h2
    exact r.sep i j d1 d2 a hij g1 g2 (by rw [(kd_ow w1).1]; exact o1) (by rw [(kd_ow w2).1]; exact o2) s1
  · obtain ⟨h1, c, h2, h3⟩ := r.io p hp
    obtain ⟨c', g1, w1⟩ := sh_at sh h2
    exact ⟨h1, c', g1, by rw [(kd_ow w1).2]; exact h3⟩
  · have := congrArg List.length sh
    simp only [List.length_map] at this
    rw [this]
    exact r.len
theorem lent_io {c : Ce} (h : c.ow = true) : c.lent.io = true := by cases c <;> first | rfl | cases h
theorem lent_mem (c : Ce) : c.lent.mem = c.mem := by cases c <;> rfl
theorem lent_ceO {o : HO} {c : Ce} {xs : List V} (h : CeO o c xs) : CeO o c.lent xs := by cases c <;> exact h
/-- the arguments as the callee finds them -/
theorem ags_cells (r : R K G F H σ e) : ∀ {as : List Ag} {vs : List V} {cs : List Ce} (n : Nat), AgsAt K σ F e as vs → agCells as e = .ok cs → ∃ io : List (Nat × Addr), CsAt K F H n cs vs io ∧ io.length = (agSlots as).length ∧
    ∀ (k : Nat) (i : Nat) (b : Addr), (agSlots as)[k]? = some i → (io.map (·.2))[k]? = some b → σ[i]? = some (some (.ref b)) ∧ Lv σ e b
  | _, _, _, n, .nil, h => by
    cases h
    exact ⟨[], .nil, rfl, fun k i b h => by simp [agSlots] at h⟩
  | _, _, _, n, .cons (a := .d d) hd t, h => by
    obtain ⟨cs, h1, h2⟩ := Rs.bind_eq h
    cases h2
    obtain ⟨io, g1, g2, g3⟩ := ags_cells r (n + 1) t h1
    exact ⟨io, .f hd g1, g2, g3⟩
  | _, _, _, n, .cons (a := .s i) hd t, h => by
    obtain ⟨s1, c, s2, s3⟩ := hd
    unfold agCells at h
    rw [s2] at h
    obtain ⟨cs, h1, h2⟩ := Rs.bind_eq h
    cases h2
    obtain ⟨io, g1, g2, g3⟩ := ags_cells r (n + 1) t h1
    obtain ⟨w, z1, z2⟩ := r.at_ i c s2
    rw [s1] at z1
    cases z1
    obtain ⟨a, o, xs, rfl, q1, q2, q3, q4, _⟩ := z2.own s3
    refine ⟨(n, a) :: io, .o (lent_io s3) q1 q2 (lent_ceO q3) (by rw [lent_mem]; exact q4) g1, by unfold agSlots; simp [g2], fun k j b hk hb => ?_⟩
    unfold agSlots at hk
    cases k with
    | zero =>
      simp at hk hb
      subst hk hb
      exact ⟨s1, i, c, s2, s3, s1⟩
    | succ k => exact g3 k j b (by simpa using hk) (by simpa using hb)
theorem nodup_of {α : Type} {l : List α} (h : ∀ (i j : Nat) (x : α), l[i]? = some x → l[j]? = some x → i = j) : l.Nodup := by
  induction l with
  | nil => exact List.nodup_nil
  | cons y l ih =>
    refine List.nodup_cons.mpr ⟨fun hy => ?_, ih fun i j x h1 h2 => ?_⟩
    · obtain ⟨k, hk, e⟩ := List.mem_iff_getElem.mp hy
      have := h 0 (k + 1) y (by simp) (by simp [hk, e])
      omega
    · have := h (i + 1) (j + 1) x (by simpa using h1) (by simpa using h2)
      omega
theorem nodup_ix' {α : Type} {l : List α} (h : l.Nodup) {i j : Nat} {x : α} (h1 : l[i]? = some x) (h2 : l[j]? = some x) : i = j := by
  obtain ⟨l1, e1⟩ := List.getElem?_eq_some_iff.mp h1
  obtain ⟨l2, e2⟩ := List.getElem?_eq_some_iff.mp h2
  exact (List.getElem_inj h).mp (e1.trans e2.symm)
/-- what the slots hold behind a call -/
theorem putBack_at : ∀ {is : List Nat} {os : List Ce} {as : List Addr} {e e' : En}, is.Nodup → putBack is os e = .ok e' → OutAt K F1 H1 as os →
    e'.map (Option.map Ce.kd) = e.map (Option.map Ce.kd) ∧ ∀ (i : Nat) (c : Ce), e'[i]? = some (some c) → (i ∉ is ∧ e[i]? = some (some c)) ∨
      ∃ (k : Nat) (b : Addr) (o : HO) (xs : List V), is[k]? = some i ∧ as[k]? = some b ∧ F1 b = none ∧ H1 b = some o ∧ CeO o c xs ∧ DnA K F1 xs c.mem
  | [], os, as, e, e', _, h, ho => by
    cases os with
    | nil =>
      cases h
      exact ⟨rfl, fun i c q => .inl ⟨by simp, q⟩⟩
    | cons _ _ => cases h
  | i :: is, os, as, e, e', hn, h, ho => by
    cases ho with
    | nil => cases h
    | @cons a c o xs as cs q1 q2 q3 q4 ho =>
      obtain ⟨n1, n2⟩ := List.nodup_cons.mp hn
      -- one slot, then the others
      have key : ∀ c0 c1 : Ce, e[i]? = some (some c0) → c1.kd = c0.kd → CeO o c1 xs → DnA K F1 xs c1.mem → putBack is cs (e.set i (some c1)) = .ok e' →
          e'.map (Option.map Ce.kd) = e.map (Option.map Ce.kd) ∧ ∀ (j : Nat) (c : Ce), e'[j]? = some (some c) → (j ∉ i :: is ∧ e[j]? = some (some c)) ∨
            ∃ (k : Nat) (b : Addr) (o : HO) (xs : List V), (i :: is)[k]? = some j ∧ (a :: as)[k]? = some b ∧ F1 b = none ∧ H1 b = some o ∧ CeO o c xs ∧ DnA K F1 xs c.mem := by
        intro c0 c1 h0 hk hc hm h
        obtain ⟨g1, g2⟩ := putBack_at n2 h ho
        refine ⟨g1.trans (set_kd h0 hk), fun j c hj => ?_⟩
        rcases g2 j c hj with ⟨z1, z2⟩ | ⟨k, b, o, xs, z1, z2, z3⟩
        · by_cases hji : j = i
          · subst hji
            rw [List.getElem?_set_self (List.getElem?_eq_some_iff.mp h0).1] at z2
            cases z2
            exact .inr ⟨0, a, o, xs, by simp, by simp, q1, q2, hc, hm⟩
          · rw [List.getElem?_set_ne (Ne.symm hji)] at z2
            exact .inl ⟨by simp [hji, z1], z2⟩
        · exact .inr ⟨k + 1, b, o, xs, by simpa using z1, by simpa using z2, z3⟩
      unfold putBack at h
      split at h
      · rename_i p ds0 p' ds h0
        exact key (.l p ds0) (.l p ds) h0 (by cases p <;> rfl) q3 q4 h
      · rename_i p t1 ks0 vs0 p' t0 ks vs h0
        obtain ⟨ht, h⟩ := ite_ok h
        exact key (.k p _ ks0 vs0) (.k p _ ks vs) h0 (by rw [ht]; cases p <;> cases t0 <;> rfl) q3 q4 h
      · cases h
theorem call_ok {S : Sf} {ma : M (List Ag)} {H : Hp} {Q : VK} (h : tN K (mCall S ma) σ H Q) : tCall (spD K S) [] E0 (tAg K ma) σ H Q := by
  obtain ⟨G, F, e, c, e', r, hm, q⟩ := h
  obtain ⟨as, e1, h1, hm⟩ := bind_ok2 hm
  obtain ⟨cs, h2, hm⟩ := Rs.bind_eq hm
  obtain ⟨hnd, hm⟩ := ite_ok hm
  obtain ⟨⟨c', os⟩, h3, hm⟩ := Rs.bind_eq hm
  obtain ⟨e2, h4, hm⟩ := Rs.bind_eq hm
  cases hm
  refine ⟨G, F, e, as, e1, r, h1, fun vs F1 H1 n ha => ?_⟩
  show spD K S (vs ++ []) H1 Q E0
  rw [List.append_nil]
  obtain ⟨io, g1, g2, g3⟩ := ags_cells n.r 0 ha h2
  have gk : ∀ (k : Nat) (b : Addr), (io.map (·.2))[k]? = some b → ∃ i, (agSlots as)[k]? = some i ∧ σ[i]? = some (some (.ref b)) ∧ Lv σ e1 b := fun k b hk => by
    have hl : k < (agSlots as).length := by
      have := (List.getElem?_eq_some_iff.mp hk).1
      rw [List.length_map, g2] at this
      exact this
    refine ⟨(agSlots as)[k], List.getElem?_eq_getElem hl, ?_⟩
    exact g3 k _ b (List.getElem?_eq_getElem hl) hk
  have hn2 : (io.map (·.2)).Nodup := nodup_of fun k j b hk hj => by
    obtain ⟨i1, s1, s2, l1⟩ := gk k b hk
    obtain ⟨i2, s3, s4, l2⟩ := gk j b hj
    by_cases hi : i1 = i2
    · subst hi
      exact nodup_ix' hnd s1 s3
    · exfalso
      have own : ∀ (k : Nat) (b : Addr) (i : Nat), (agSlots as)[k]? = some i → ∃ c : Ce, e1[i]? = some (some c) ∧ c.ow = true := by
        have go : ∀ {as : List Ag} {vs : List V}, AgsAt K σ F1 e1 as vs → ∀ (k i : Nat), (agSlots as)[k]? = some i → ∃ c : Ce, e1[i]? = some (some c) ∧ c.ow = true := by
          intro as vs ha
          induction ha with
          | nil => intro k i h; simp [agSlots] at h
          | @cons a as v vs h0 _ ih =>
            cases a with
            | d d => exact ih
            | s i0 =>
              intro k i h
              unfold agSlots at h
              cases k with
              | zero =>
                simp at h
                subst h
                exact h0.2
              | succ k => exact ih k i (by simpa using h)
        exact fun k b i h => go ha k i h
      obtain ⟨c1, w1, w2⟩ := own k b i1 s1
      obtain ⟨c2, w3, w4⟩ := own j b i2 s3
      exact n.r.sep i1 i2 c1 c2 b hi w1 w3 w2 w4 s2 s4
  refine ⟨F1, cs, _, os, io, n.r.fh, g1, hn2, h3, fun v F2 H2 go nat out => ?_⟩
  have lv : ∀ b, b ∈ io.map (·.2) → Lv σ e1 b := fun b hb => by
    obtain ⟨k, hk⟩ := List.getElem?_of_mem hb
    obtain ⟨_, _, _, l⟩ := gk k b hk
    exact l
  obtain ⟨sh, pb⟩ := putBack_at hnd h4 out
  have n2 : Nx K G σ F1 H1 e1 F2 H2 e' := n.r.next (go.mono lv) sh fun i c2 hi => by
    rcases pb i c2 hi with ⟨z1, z2⟩ | ⟨k, b, o, xs, z1, z2, z3, z4, z5, z6⟩
    · obtain ⟨w, w1, w2⟩ := n.r.at_ i c2 z2
      refine ⟨w, w1, ?_⟩
      rcases w2 with ⟨d, rfl, hd⟩ | ⟨b, o, xs, rfl, y1, y2, y3, y4, y5, y6⟩
      · exact .inl ⟨d, rfl, hd.mono go.ff⟩
      · have hb : b ∉ io.map (·.2) := fun hb => by
          obtain ⟨k, hk⟩ := List.getElem?_of_mem hb
          obtain ⟨j, s1, s2, ⟨j', c', l1, l2, l3⟩⟩ := gk k b hk
          have hji : j' = i := Classical.byContradiction fun hne => n.r.sep j' i c' c2 b hne l1 z2 l2 y3.ow l3 w1
          have hj2 : j = i := by
            obtain ⟨w3, v3, _⟩ := n.r.at_ i c2 z2
            by_cases hne : j = i
            · exact hne
            · exfalso
              -- j is one of the slots handed over, so it is of its own
              have own : ∀ {as : List Ag} {vs : List V}, AgsAt K σ F1 e1 as vs → ∀ (k i : Nat), (agSlots as)[k]? = some i → ∃ c : Ce, e1[i]? = some (some c) ∧ c.ow = true := by
                intro as vs ha
                induction ha with
                | nil => intro k i h; simp [agSlots] at h
                | @cons a as v vs h0 _ ih =>
                  cases a with
                  | d d => exact ih
                  | s i0 =>
                    intro k i h
                    unfold agSlots at h
                    cases k with
                    | zero =>
                      simp at h
                      subst h
                      exact h0.2
                    | succ k => exact ih k i (by simpa using h)
              obtain ⟨c3, w5, w6⟩ := own ha k j s1
              exact n.r.sep j i c3 c2 b hne w5 z2 w6 y3.ow s2 w1
          rw [← hj2] at z1
          exact z1 (List.mem_of_getElem? s1)
        exact .inr ⟨b, o, xs, rfl, (go.st b y1 (by rw [y2]; rfl)).1, go.hh b o y2 hb, y3, y4.mono go.ff, y5, y6⟩
    · obtain ⟨j, s1, s2, _⟩ := gk k b z2
      have hji : j = i := by rw [z1] at s1; exact (Option.some.inj s1).symm
      subst hji
      obtain ⟨c0, g0, w0⟩ := sh_at sh.symm hi
      obtain ⟨w, w1, w2⟩ := n.r.at_ j c0 g0
      rw [s2] at w1
      cases w1
      have ow0 : c0.ow = true := by rw [(kd_ow w0).1]; exact z5.ow
      obtain ⟨b', o', xs', q', _, _, _, _, y5, y6⟩ := w2.own ow0
      cases q'
      exact ⟨_, s2, .inr ⟨b, o, xs, rfl, z3, z4, z5, z6, fun z => y5 (by rw [(kd_ow w0).2]; exact z), fun z => y6 (by rw [(kd_ow w0).2]; exact z)⟩⟩
  exact q v F2 H2 (n.trans n2) (nat.back n.go r.fh)
theorem pn_call {k : Nat} {f : Addr} {fd : FuncData} {ps : List Str} {S : Sf} {ma : M (List Ag)} (F : FnD X.prog X.w X.K X.mg X.base k f fd ps S) (hr : Room k X.A) (hg : Gl X x) (hm : X.mg x = some (.ref f)) (hk : PySem.W.keepIn X.K (.ref f) = true) (hb : Binds X.K fd ps [])
    (ha : PAg X (ex :: es) ma) (hdb : (x == ("__debug__" : Str)) = false := by decide) (he : starEach (ex :: es) X.env = (false, eval ex X.env) :: starEach es X.env := by rfl) (hpl : (backTo pos (starEach es X.env)).any (·.1) = false := by rfl) :
    PN X (.Call (.Name x p) (ex :: es) [] pos) (mCall S ma) := PEimp (pe_call F hr hg hm hk hb .nil pass0 ha hdb he hpl) fun σ H Q h => call_ok h
end
end DL

namespace DL
open PySem L2 PyProof.Rows

/-! ### list comprehensions -/
def wipeE (e : En) : List Nat → En
  | [] => e
  | v :: vs => (wipeE e vs).set v none
def restE (e e3 : En) : List Nat → En
  | [] => e3
  | v :: vs => (restE e e3 vs).set v ((e[v]?).getD none)
theorem wipe_get (σ : L2.St) (j : Nat) : ∀ vs : List Nat, (wipe σ vs)[j]? = if j ∈ vs then (σ[j]?).map (fun _ => none) else σ[j]?
  | [] => by simp [wipe]
  | v :: vs => by
    unfold wipe
    by_cases h : v = j
    · subst h
      rw [if_pos List.mem_cons_self]
      by_cases hl : v < (wipe σ vs).length
      · rw [List.getElem?_set_self hl]
        rw [wipe_length] at hl
        rw [List.getElem?_eq_getElem hl]
        rfl
      · rw [List.getElem?_eq_none (by simpa using Nat.le_of_not_lt hl)]
        rw [wipe_length] at hl
        rw [List.getElem?_eq_none (Nat.le_of_not_lt hl)]
        rfl
    · rw [List.getElem?_set_ne h, wipe_get σ j vs]
      simp [Ne.symm h]
theorem wipeE_len (e : En) : ∀ vs : List Nat, (wipeE e vs).length = e.length
  | [] => rfl
  | v :: vs => by unfold wipeE; rw [List.length_set, wipeE_len e vs]
theorem wipeE_get (e : En) (j : Nat) : ∀ vs : List Nat, (wipeE e vs)[j]? = if j ∈ vs then (e[j]?).map (fun _ => none) else e[j]?
  | [] => by simp [wipeE]
  | v :: vs => by
    unfold wipeE
    by_cases h : v = j
    · subst h
      rw [if_pos List.mem_cons_self]
      by_cases hl : v < (wipeE e vs).length
      · rw [List.getElem?_set_self hl]
        rw [wipeE_len] at hl
        rw [List.getElem?_eq_getElem hl]
        rfl
      · rw [List.getElem?_eq_none (by simpa using Nat.le_of_not_lt hl)]
        rw [wipeE_len] at hl
        rw [List.getElem?_eq_none (Nat.le_of_not_lt hl)]
        rfl
    · rw [List.getElem?_set_ne h, wipeE_get e j vs]
      simp [Ne.symm h]
theorem restE_len (e e3 : En) : ∀ vs : List Nat, (restE e e3 vs).length = e3.length
  | [] => rfl
  | v :: vs => by unfold restE; rw [List.length_set, restE_len e e3 vs]
theorem restE_get (e e3 : En) (hl : e3.length = e.length) (j : Nat) : ∀ vs : List Nat, (restE e e3 vs)[j]? = if j ∈ vs then e[j]? else e3[j]?
  | [] => by simp [restE]
  | v :: vs => by
    unfold restE
    by_cases h : v = j
    · subst h
      rw [if_pos List.mem_cons_self]
      by_cases hv : v < e.length
      · rw [List.getElem?_set_self (by rw [restE_len, hl]; exact hv), List.getElem?_eq_getElem hv]
        rfl
      · rw [List.getElem?_eq_none (by rw [List.length_set, restE_len, hl]; exact Nat.le_of_not_lt hv), List.getElem?_eq_none (Nat.le_of_not_lt hv)]
    · rw [List.getElem?_set_ne h, restE_get e e3 hl j vs]
      simp [Ne.symm h]
def cLoop (t : Tg) (vs : List Nat) (c : M Bool) (m : M D) : List D → List D → En → Rs (List D × En)
  | [], acc, e => if vs.all (frozenAt e) = true then .ok (acc, e) else .no
  | d :: ds, acc, e => if vs.all (frozenAt e) = true then
      (t d (wipeE e vs)).bind fun e1 => (c e1).bind fun p => if p.1 = true then
        (m p.2).bind fun q => if acc.length < 16000000 then cLoop t vs c m ds (acc ++ [q.1]) q.2 else .no
      else cLoop t vs c m ds acc p.2
    else .no
def mComp (src : M (List D)) (t : Tg) (vs : List Nat) (c : M Bool) (m : M D) : M Ce := fun e => (src e).bind fun p => (cLoop t vs c m p.1 [] p.2).bind fun q => .ok (.l false q.1, restE p.2 q.2 vs)
def mYes : M Bool := fun e => .ok (true, e)
section
variable {K : PySem.W.Frag} {G : Bs} {F H F1 H1 : Hp} {σ : L2.St} {e e1 e3 : En} {vs is : List Nat}
theorem fr_at (h : vs.all (frozenAt e) = true) {i : Nat} (hi : i ∈ vs) {c : Ce} (hc : e[i]? = some (some c)) : c.ow = false := by
  have h1 := List.all_eq_true.mp h i hi
  unfold frozenAt at h1
  rw [hc] at h1
  simpa using h1
theorem io_ow {c : Ce} (h : c.ow = false) : c.io = false := by cases c <;> first | rfl | cases h
/-- the block's own names are forgotten -/
theorem R.wipe (r : R K G F H σ e) (h : vs.all (frozenAt e) = true) : R K G F H (wipe σ vs) (wipeE e vs) := by
  have at2 : ∀ (j : Nat) (c : Ce), (wipeE e vs)[j]? = some (some c) → j ∉ vs ∧ e[j]? = some (some c) := fun j c hj => by
    rw [wipeE_get] at hj
    by_cases hv : j ∈ vs
    · rw [if_pos hv] at hj
      cases q : e[j]? with
      | none => rw [q] at hj; cases hj
      | some o => rw [q] at hj; cases hj
    · rw [if_neg hv] at hj
      exact ⟨hv, hj⟩
  have sg : ∀ j, j ∉ vs → (L2.wipe σ vs)[j]? = σ[j]? := fun j hj => by rw [wipe_get, if_neg hj]
  refine ⟨r.go, r.ba, fun j c hj => ?_, fun j k c1 c2 a hjk h1 h2 o1 o2 s1 s2 => ?_, fun p hp => ?_, by rw [wipeE_len, wipe_length]; exact r.len⟩
  · obtain ⟨hv, hj⟩ := at2 j c hj
    rw [sg j hv]
    exact r.at_ j c hj
  · obtain ⟨v1, g1⟩ := at2 j c1 h1
    obtain ⟨v2, g2⟩ := at2 k c2 h2
    rw [sg j v1] at s1
    rw [sg k v2] at s2
    exact r.sep j k c1 c2 a hjk g1 g2 o1 o2 s1 s2
  · obtain ⟨h1, c, h2, h3⟩ := r.io p hp
    have hv : p.1 ∉ vs := fun hv => by
      have := io_ow (fr_at h hv h2)
      rw [h3] at this
      cases this
    exact ⟨by rw [sg _ hv]; exact h1, c, by rw [wipeE_get, if_neg hv]; exact h2, h3⟩
/-- and told again -/
theorem R.unwipe (r : R K G F H (L2.wipe σ vs) (wipeE e3 vs)) (r1 : R K G F1 H1 σ e1) (x : Ex F1 F) (h : vs.all (frozenAt e1) = true) (hl : e3.length = e1.length) : R K G F H σ (restE e1 e3 vs) := by
  have at2 : ∀ (j : Nat) (c : Ce), (restE e1 e3 vs)[j]? = some (some c) → (j ∈ vs ∧ e1[j]? = some (some c)) ∨ (j ∉ vs ∧ (wipeE e3 vs)[j]? = some (some c) ∧ (L2.wipe σ vs)[j]? = σ[j]?) := fun j c hj => by
    rw [restE_get e1 e3 hl] at hj
    by_cases hv : j ∈ vs
    · rw [if_pos hv] at hj
      exact .inl ⟨hv, hj⟩
    · rw [if_neg hv] at hj
      exact .inr ⟨hv, by rw [wipeE_get, if_neg hv]; exact hj, by rw [wipe_get, if_neg hv]⟩
  refine ⟨r.go, r.ba, fun j c hj => ?_, fun j k c1 c2 a hjk h1 h2 o1 o2 s1 s2 => ?_, fun p hp => ?_, by rw [restE_len, hl]; exact r1.len⟩
  · rcases at2 j c hj with ⟨hv, g⟩ | ⟨hv, g, sg⟩
    · obtain ⟨v, q1, q2⟩ := r1.at_ j c g
      refine ⟨v, q1, ?_⟩
      have ow := fr_at h hv g
      rcases q2 with ⟨d, rfl, hd⟩ | ⟨a, o, xs, rfl, _, _, q, _⟩
      · exact .inl ⟨d, rfl, hd.mono x⟩
      · rw [q.ow] at ow; cases ow
    · obtain ⟨v, q1, q2⟩ := r.at_ j c g
      rw [sg] at q1
      exact ⟨v, q1, q2⟩
  · rcases at2 j c1 h1 with ⟨hv, g⟩ | ⟨hv, g, sg⟩
    · rw [fr_at h hv g] at o1; cases o1
    · rcases at2 k c2 h2 with ⟨hv', g'⟩ | ⟨hv', g', sg'⟩
      · rw [fr_at h hv' g'] at o2; cases o2
      · rw [← sg] at s1
        rw [← sg'] at s2
        exact r.sep j k c1 c2 a hjk g g' o1 o2 s1 s2
  · obtain ⟨h1, c, h2, h3⟩ := r.io p hp
    have hv : p.1 ∉ vs := fun hv => by
      rw [wipeE_get, if_pos hv] at h2
      cases q : e3[p.1]? with
      | none => rw [q] at h2; cases h2
      | some o => rw [q] at h2; cases h2
    rw [wipe_get, if_neg hv] at h1
    rw [wipeE_get, if_neg hv] at h2
    exact ⟨h1, c, by rw [restE_get e1 e3 hl, if_neg hv]; exact h2, h3⟩
theorem wipe_chg {σ2 : L2.St} (h : Chg is (L2.wipe σ vs) σ2) (hs : ∀ i ∈ is, i ∈ vs) : L2.wipe σ2 vs = L2.wipe σ vs := by
  apply List.ext_getElem?
  intro j
  rw [wipe_get, wipe_get]
  have hlen : σ2.length = σ.length := by rw [h.1, wipe_length]
  by_cases hv : j ∈ vs
  · rw [if_pos hv, if_pos hv]
    by_cases hj : j < σ.length
    · rw [List.getElem?_eq_getElem hj, List.getElem?_eq_getElem (by omega)]
      rfl
    · rw [List.getElem?_eq_none (Nat.le_of_not_lt hj), List.getElem?_eq_none (by omega)]
  · rw [if_neg hv, if_neg hv, h.2 j (fun z => hv (hs j z)), wipe_get, if_neg hv]
/-- an object that is no slot's is written -/
theorem R.other {a : Addr} {o : HO} (r : R K G F H σ e) (h1 : F a = none) (h2 : (H a).isSome = true) (h3 : ¬ Lv σ e a) (h4 : G.H a = none) : R K G F (upd H a o) σ e := by
  refine ⟨⟨r.go.ff, fun b u hb hn => ?_, fun b u hb => ?_, fun b q1 q2 => ?_⟩, r.ba, fun i c hc => ?_, r.sep, r.io, r.len⟩
  · have hba : b ≠ a := fun z => by subst z; rw [h4] at hb; cases hb
    rw [upd_ne hba]
    exact r.go.hh b u hb hn
  · rw [upd_ne (ne_of_none hb h1)]
    exact r.fh b u hb
  · obtain ⟨z1, z2⟩ := r.go.st b q1 q2
    refine ⟨z1, ?_⟩
    by_cases hba : b = a
    · subst hba; rw [upd_same]; rfl
    · rw [upd_ne hba]; exact z2
  · obtain ⟨v, g1, g2⟩ := r.at_ i c hc
    refine ⟨v, g1, ?_⟩
    rcases g2 with g2 | ⟨b, u, xs, rfl, z1, z2, z3, z4, z5⟩
    · exact .inl g2
    · have hba : b ≠ a := fun z => by
        subst z
        exact h3 ⟨i, c, hc, z3.ow, g1⟩
      exact .inr ⟨b, u, xs, rfl, z1, by rw [upd_ne hba]; exact z2, z3, z4, z5⟩
theorem kd_frozen {c c' : Ce} (h : c'.kd = c.kd) : c'.ow = c.ow := (kd_ow h).1
theorem all_frozen_sh (sh : e1.map (Option.map Ce.kd) = e.map (Option.map Ce.kd)) (h : vs.all (frozenAt e) = true) : vs.all (frozenAt e1) = true := by
  rw [List.all_eq_true] at h ⊢
  intro i hi
  have := h i hi
  unfold frozenAt at this ⊢
  cases q : e1[i]? with
  | none => rfl
  | some oc =>
    cases oc with
    | none => rfl
    | some c =>
      obtain ⟨c', g1, g2⟩ := sh_at sh.symm q
      rw [g1] at this
      simpa [kd_frozen g2] using this
theorem wipe_sh (sh : e1.map (Option.map Ce.kd) = e.map (Option.map Ce.kd)) : (wipeE e1 vs).map (Option.map Ce.kd) = (wipeE e vs).map (Option.map Ce.kd) := by
  apply List.ext_getElem?
  intro j
  have h1 : (e1.map (Option.map Ce.kd))[j]? = (e.map (Option.map Ce.kd))[j]? := by rw [sh]
  rw [List.getElem?_map, List.getElem?_map] at h1 ⊢
  rw [wipeE_get, wipeE_get]
  by_cases hv : j ∈ vs
  · rw [if_pos hv, if_pos hv]
    cases q1 : e1[j]? with
    | none => rw [q1] at h1; cases q2 : e[j]? with
      | none => rfl
      | some _ => rw [q2] at h1; cases h1
    | some _ => rw [q1] at h1; cases q2 : e[j]? with
      | none => rw [q2] at h1; cases h1
      | some _ => rfl
  · rw [if_neg hv, if_neg hv]; exact h1
theorem lc_ok {src : M (List D)} {t : Tg} {c : M Bool} {m : M D} {Q : VK} (to : TgOk t is) (hs : ∀ i ∈ is, i ∈ vs) (h : tN K (mComp src t vs c m) σ H Q) : tLc (tI K src) (tG K t is) (tT K c) (tF K m) vs σ H Q := by
  obtain ⟨G, F, e, cell, e', r, hm, q⟩ := h
  obtain ⟨ds, e1, h1, hm⟩ := bind_ok2 hm
  obtain ⟨⟨xs, e3⟩, h2, hm⟩ := Rs.bind_eq hm
  cases hm
  refine ⟨G, F, e, ds, e1, r, h1, fun J F1 H1 n wk D hD => ?_⟩
  have fr0 : vs.all (frozenAt e1) = true := by
    cases ds with
    | nil => unfold cLoop at h2; exact (ite_ok h2).1
    | cons d ds => unfold cLoop at h2; exact (ite_ok h2).1
  have F1D : F1 D = none := ex_none n.r.fh hD
  obtain ⟨DnL, DGH, DGF, _⟩ := n.r.new hD
  have go0 : Go F1 H1 F1 (upd H1 D (.lst [])) noA := Go.newO n.r.fh hD
  refine ⟨fun i m' H' => m' = ds.length - i ∧ i ≤ ds.length ∧ ∃ (F2 : Hp) (e2 : En) (acc : List DL.D) (va : List V), R K G F2 H' (L2.wipe σ vs) (wipeE e2 vs) ∧ e2.length = e1.length ∧ (wipeE e2 vs).map (Option.map Ce.kd) = (wipeE e1 vs).map (Option.map Ce.kd) ∧
      Go F1 H1 F2 H' (Lv σ e1) ∧ F2 D = none ∧ H' D = some (.lst va) ∧ DnA K F2 va acc ∧ cLoop t vs c m (ds.drop i) acc e2 = .ok (xs, e3),
    ⟨ds.length, by omega, Nat.zero_le _, F1, e1, [], [], ((n.r.wipe fr0).step go0).r, rfl, rfl, go0.any, F1D, upd_same, .nil, by rw [List.drop_zero]; exact h2⟩, ?_⟩
  rintro i m' H' ⟨rfl, hi, F2, e2, acc, va, r2, len2, sh2, go2, FD, HD, da, hc⟩
  obtain ⟨w1, w2⟩ := wk i F2 H' go2.ff r2.fh
  -- the list is no slot's
  have notLv : ∀ (e4 : En) (σ4 : L2.St), (∀ b, Lv σ4 e4 b → Lv σ e1 b) → ¬ Lv σ4 e4 D := fun e4 σ4 hh z => DnL (hh D z)
  have lvw : ∀ b, Lv (L2.wipe σ vs) (wipeE e2 vs) b → Lv σ e1 b := fun b ⟨j, cc, g1, g2, g3⟩ => by
    obtain ⟨c', g4, g5⟩ := sh_at sh2.symm g1
    rw [wipeE_get] at g4
    by_cases hv : j ∈ vs
    · rw [if_pos hv] at g4
      cases q : e1[j]? with
      | none => rw [q] at g4; cases g4
      | some o => rw [q] at g4; cases g4
    · rw [if_neg hv] at g4
      rw [wipe_get, if_neg hv] at g3
      exact ⟨j, c', g4, by rw [(kd_ow g5).1]; exact g2, g3⟩
  by_cases hlt : i < ds.length
  · have hd : ds[i]? = some ds[i] := List.getElem?_eq_getElem hlt
    obtain ⟨g1, g2⟩ := w1 _ hd
    rw [List.drop_eq_getElem_cons hlt] at hc
    unfold cLoop at hc
    obtain ⟨fr, hc⟩ := ite_ok hc
    obtain ⟨ea, ht, hc⟩ := Rs.bind_eq hc
    obtain ⟨⟨b, eb⟩, hcond, hc⟩ := Rs.bind_eq hc
    refine .inr ⟨g1, fun H'' => ∃ (F2 : Hp) (e2 : En) (acc : List DL.D) (va : List V), R K G F2 H'' (L2.wipe σ vs) (wipeE e2 vs) ∧ e2.length = e1.length ∧ (wipeE e2 vs).map (Option.map Ce.kd) = (wipeE e1 vs).map (Option.map Ce.kd) ∧
      Go F1 H1 F2 H'' (Lv σ e1) ∧ F2 D = none ∧ H'' D = some (.lst va) ∧ DnA K F2 va acc ∧ cLoop t vs c m (ds.drop (i + 1)) acc e2 = .ok (xs, e3), fun H'' q => ⟨ds.length - (i + 1), by omega, rfl, hlt, q⟩, fun x H3 y => ?_⟩
    obtain ⟨F3, go3, hx⟩ := g2 x H3 y
    have n3 := r2.step go3
    have len_a : ea.length = e1.length := by rw [to.ln _ _ _ ht, wipeE_len, len2]
    have fr_a : vs.all (frozenAt ea) = true := by
      rw [List.all_eq_true]
      intro j hj
      refine to.fz _ _ _ ht j (.inr ?_)
      unfold frozenAt
      rw [wipeE_get, if_pos hj]
      cases e2[j]? <;> rfl
    -- behind the target: what is of one's own is as it was
    have sh_a : (wipeE ea vs).map (Option.map Ce.kd) = (wipeE e1 vs).map (Option.map Ce.kd) := by
      rw [← sh2]
      apply List.ext_getElem?
      intro j
      rw [List.getElem?_map, List.getElem?_map, wipeE_get, wipeE_get]
      by_cases hv : j ∈ vs
      · rw [if_pos hv, if_pos hv]
        have : (ea[j]?).isSome = (e2[j]?).isSome := by
          by_cases hj : j < e1.length
          · rw [List.getElem?_eq_getElem (by omega), List.getElem?_eq_getElem (by omega)]
            try rfl
          · rw [List.getElem?_eq_none (by omega), List.getElem?_eq_none (by omega)]
            try rfl
        cases q1 : ea[j]? <;> cases q2 : e2[j]? <;> simp_all
      · rw [if_neg hv, if_neg hv, to.ne _ _ _ ht j (fun z => hv (hs j z)), wipeE_get, if_neg hv]
    refine ⟨G, F3, _, _, ea, n3.r, hx, ht, fun σ2 r4 chg => ⟨wipe_chg chg hs, G, F3, ea, b, eb, r4, hcond, fun F5 H5 n5 => ?_⟩⟩
    have wσ : L2.wipe σ2 vs = L2.wipe σ vs := wipe_chg chg hs
    have lva : ∀ b, Lv σ2 ea b → Lv σ e1 b := fun b ⟨j, cc, z1, z2, z3⟩ => by
      have hv : j ∉ vs := fun hv => by
        rw [fr_at fr_a hv z1] at z2; cases z2
      refine lvw b ⟨j, cc, ?_, z2, ?_⟩
      · rw [← to.ne _ _ _ ht j (fun z => hv (hs j z))]; exact z1
      · rw [← chg.2 j (fun z => hv (hs j z))]; exact z3
    have F3D : F3 D = none := (go3.st D FD (by rw [HD]; rfl)).1
    have H3D : H3 D = some (.lst va) := go3.hh D _ HD (fun z => z)
    have da3 := da.mono go3.ff
    have go13 : Go F1 H1 F3 H3 (Lv σ e1) := go2.trans go3.any
    have F5D : F5 D = none := (n5.go.st D F3D (by rw [H3D]; rfl)).1
    have H5D : H5 D = some (.lst va) := n5.go.hh D _ H3D (notLv ea σ2 lva)
    have go15 : Go F1 H1 F5 H5 (Lv σ e1) := go13.trans (n5.go.mono lva)
    have fr_b : vs.all (frozenAt eb) = true := all_frozen_sh n5.sh fr_a
    have len_b : eb.length = e1.length := by
      have := congrArg List.length n5.sh
      simp only [List.length_map] at this
      rw [this, len_a]
    cases b with
    | false =>
      refine iteF ?_
      dsimp only at hc
      rw [if_neg Bool.false_ne_true] at hc
      have rw5 := n5.r.wipe fr_b
      rw [wσ] at rw5
      exact ⟨F5, eb, acc, va, rw5, len_b, (wipe_sh n5.sh).trans sh_a, go15, F5D, H5D, da3.mono n5.go.ff, hc⟩
    | true =>
      refine iteT ?_
      dsimp only at hc
      rw [if_pos rfl] at hc
      obtain ⟨⟨z, ec⟩, hm, hc⟩ := Rs.bind_eq hc
      obtain ⟨hz, hc⟩ := ite_ok hc
      refine ⟨G, F5, eb, z, ec, n5.r, hm, fun v F6 H6 n6 hv => ?_⟩
      have lvb : ∀ b, Lv σ2 eb b → Lv σ e1 b := fun b hb => lva b (sh_lv n5.sh hb)
      have F6D : F6 D = none := (n6.go.st D F5D (by rw [H5D]; rfl)).1
      have H6D : H6 D = some (.lst va) := n6.go.hh D _ H5D (notLv eb σ2 lvb)
      have go16 : Go F1 H1 F6 H6 (Lv σ e1) := go15.trans (n6.go.mono lvb)
      have fr_c : vs.all (frozenAt ec) = true := all_frozen_sh n6.sh fr_b
      have len_c : ec.length = e1.length := by
        have := congrArg List.length n6.sh
        simp only [List.length_map] at this
        rw [this, len_b]
      have da6 := (da3.mono n5.go.ff).mono n6.go.ff
      refine ⟨va, H6D, by rw [da6.len]; exact small_line hz, F6, ec, acc ++ [z], va ++ [v], ?_, len_c, ((wipe_sh n6.sh).trans (wipe_sh n5.sh)).trans sh_a, ?_, F6D, upd_same, da6.app (.cons hv .nil), hc⟩
      · have rw6 := n6.r.wipe fr_c
        rw [wσ] at rw6
        refine rw6.other F6D (by rw [H6D]; rfl) (fun z => ?_) DGH
        obtain ⟨j, cc, z1, z2, z3⟩ := z
        have hv : j ∉ vs := fun hv => by
          rw [wipeE_get, if_pos hv] at z1
          cases q : ec[j]? with
          | none => rw [q] at z1; cases z1
          | some o => rw [q] at z1; cases z1
        rw [wipeE_get, if_neg hv] at z1
        refine notLv ec σ2 (fun b hb => lvb b (sh_lv n6.sh hb)) ⟨j, cc, z1, z2, ?_⟩
        rw [wipe_get, if_neg hv] at z3
        rw [chg.2 j (fun z => hv (hs j z)), wipe_get, if_neg hv]
        exact z3
      · refine ⟨go16.ff, fun b u hb hn => ?_, fun b u hb => ?_, fun b q1 q2 => ?_⟩
        · have hbD : b ≠ D := fun z => by subst z; rw [hD] at hb; cases hb
          rw [upd_ne hbD]
          exact go16.hh b u hb hn
        · rw [upd_ne (ne_of_none hb F6D)]
          exact go16.fh b u hb
        · have hbD : b ≠ D := fun z => by subst z; rw [hD] at q2; cases q2
          rw [upd_ne hbD]
          exact go16.st b q1 q2
  · have e4 : i = ds.length := by omega
    subst e4
    rw [List.drop_length] at hc
    unfold cLoop at hc
    obtain ⟨fr, hc⟩ := ite_ok hc
    have hc1 := congrArg Prod.fst (Rs.ok.inj hc)
    have hc2 := congrArg Prod.snd (Rs.ok.inj hc)
    dsimp only at hc1 hc2
    subst hc1 hc2
    refine .inl ⟨w2 (List.getElem?_eq_none (Nat.le_refl _)), ?_⟩
    have rr := R.unwipe r2 n.r go2.ff fr0 len2
    refine q (.ref D) F2 H' (n.trans ⟨rr, go2, ?_⟩) (.inr ⟨rfl, D, _, va, rfl, n.go.old r.fh hD, FD, HD, rfl, da⟩)
    apply List.ext_getElem?
    intro j
    have h1 : ((wipeE e2 vs).map (Option.map Ce.kd))[j]? = ((wipeE e1 vs).map (Option.map Ce.kd))[j]? := by rw [sh2]
    rw [List.getElem?_map, List.getElem?_map] at h1 ⊢
    rw [wipeE_get, wipeE_get] at h1
    rw [restE_get e1 e2 len2]
    by_cases hv : j ∈ vs
    · rw [if_pos hv]
    · rw [if_neg hv, if_neg hv] at h1
      rw [if_neg hv]
      exact h1
end
section
variable {X : Cx} {ex elt tg iter : Expr} {ifs : List Expr} {scope : Scope} {own : List (Str × Nat)} {pos spos py : Pos} {src : M (List D)} {t : Tg} {is : List Nat} {c : M Bool} {m : M D} {i : Nat} {y : Str}
abbrev PTsd (X : Cx) (ifs : List Expr) (m : M Bool) : Prop := PTs X ifs (tT X.K m)
theorem PTsimp {t t' : TT} (h : PTs X ifs t) (hi : ∀ σ H Q, t' σ H Q → t σ H Q) : PTs X ifs t' := ⟨fun pins s σ H Q I q => h.run pins s σ H Q I (hi σ H Q q)⟩
theorem ptsd_nil : PTsd X [] mYes := PTsimp pts_nil fun σ H Q ⟨G, F, e, b, e', r, hm, q⟩ => by
  cases hm
  exact q F H (Nx.refl r)
theorem ptsd_one {a : M Bool} (h : PTd X ex a) : PTsd X [ex] a := pts_one h
theorem pn_lc (hc : X.calm = true) (hN : X.N.Nodup) (hi : PId X tg iter src) (ok : BlkOk X.N X.env.scope scope own) (to : TgOk t is) (hsub : ∀ i ∈ is, i ∈ own.map (·.2))
    (hg : ∀ (s : Shared) (H : Hp) (C : Addr) (cl : List (Str × Addr)) (fp : List Addr), PGd (X.blk s H scope (compEnvC scope cl C X.env) fp) tg t is) (ht : ∀ (s : Shared) (H : Hp) (C : Addr) (cl : List (Str × Addr)) (fp : List Addr), PTsd (X.blk s H scope (compEnvC scope cl C X.env) fp) ifs c)
    (he : ∀ (s : Shared) (H : Hp) (C : Addr) (cl : List (Str × Addr)) (fp : List Addr), PF (X.blk s H scope (compEnvC scope cl C X.env) fp) elt m) (hs : ∀ x, foldedSetIterable iter X.env x = pure x := by intro _; rfl) :
    PN X (.ListComp elt [⟨tg, iter, ifs, 0⟩] scope pos) (mComp src t (own.map (·.2)) c m) :=
  PEimp (pe_lc hc hN hi ok hg ht he hs) fun σ H Q h => lc_ok to hsub h
/-- y = [..], all on one line -/
theorem pds_setLc (hc : X.calm = true) (hN : X.N.Nodup) (hy : X.N[i]? = some y) (hyl : X.env.scope.names.lookup y = some .local) (hsw : swapsWith (.ListComp elt [⟨tg, iter, ifs, 0⟩] scope pos) (some (.Name y py)) spos.line X.env = pure true)
    (hi : PId X tg iter src) (ok : BlkOk X.N X.env.scope scope own) (to : TgOk t is) (hsub : ∀ i ∈ is, i ∈ own.map (·.2))
    (hg : ∀ (s : Shared) (H : Hp) (C : Addr) (cl : List (Str × Addr)) (fp : List Addr), PGd (X.blk s H scope (compEnvC scope cl C X.env) fp) tg t is) (ht : ∀ (s : Shared) (H : Hp) (C : Addr) (cl : List (Str × Addr)) (fp : List Addr), PTsd (X.blk s H scope (compEnvC scope cl C X.env) fp) ifs c)
    (he : ∀ (s : Shared) (H : Hp) (C : Addr) (cl : List (Str × Addr)) (fp : List Addr), PF (X.blk s H scope (compEnvC scope cl C X.env) fp) elt m) (hs : ∀ x, foldedSetIterable iter X.env x = pure x := by intro _; rfl) :
    PDS X (.Assign [.Name y py] (.ListComp elt [⟨tg, iter, ifs, 0⟩] scope pos) spos) (sAsg i (mComp src t (own.map (·.2)) c m)) :=
  PSimp (ps_setLc hc hN hy hyl hsw hi ok hg ht he hs) fun E σ H h => by
    have h2 := asg_ok h
    exact lc_ok (c := c) (m := m) to hsub h2
theorem pds_setLcF (hc : X.calm = true) (hN : X.N.Nodup) (hy : X.N[i]? = some y) (hyl : X.env.scope.names.lookup y = some .local) (hsw : swapsWith (.ListComp elt [⟨tg, iter, ifs, 0⟩] scope pos) (some (.Name y py)) spos.line X.env = pure true)
    (hi : PId X tg iter src) (ok : BlkOk X.N X.env.scope scope own) (to : TgOk t is) (hsub : ∀ i ∈ is, i ∈ own.map (·.2))
    (hg : ∀ (s : Shared) (H : Hp) (C : Addr) (cl : List (Str × Addr)) (fp : List Addr), PGd (X.blk s H scope (compEnvC scope cl C X.env) fp) tg t is) (ht : ∀ (s : Shared) (H : Hp) (C : Addr) (cl : List (Str × Addr)) (fp : List Addr), PTsd (X.blk s H scope (compEnvC scope cl C X.env) fp) ifs c)
    (he : ∀ (s : Shared) (H : Hp) (C : Addr) (cl : List (Str × Addr)) (fp : List Addr), PF (X.blk s H scope (compEnvC scope cl C X.env) fp) elt m) (hs : ∀ x, foldedSetIterable iter X.env x = pure x := by intro _; rfl) :
    PDS X (.Assign [.Name y py] (.ListComp elt [⟨tg, iter, ifs, 0⟩] scope pos) spos) (sAsgF i (mZ (mComp src t (own.map (·.2)) c m))) :=
  PSimp (ps_setLc hc hN hy hyl hsw hi ok hg ht he hs) fun E σ H h => by
    have h2 := asgF_ok h
    refine lc_ok (c := c) (m := m) to hsub ?_
    obtain ⟨G, F, e, d, e', r, hm, q⟩ := h2
    obtain ⟨c, e1, h1, h2⟩ := bind_ok2 hm
    cases h2
    refine ⟨G, F, e, c, _, r, h1, fun v F' H' n hn => ?_⟩
    obtain ⟨F2, n2, _, hd⟩ := hn.frz r n
    exact q v F2 H' n2 hd
end
end DL

namespace DL
open PySem L2 PyProof.Rows

/-! ### dicts as data -/
def dFind : List D → List D → D → Option D
  | k' :: ks, v :: vs, k => if D.eqb k' k = true then some v else dFind ks vs k
  | _, _, _ => none
def dHas (ks : List D) (k : D) : Bool := ks.any fun k' => D.eqb k' k
def dPutV : List D → List D → D → D → List D
  | k' :: ks, v' :: vs, k, v => (if D.eqb k' k = true then v else v') :: dPutV ks vs k v
  | _, vs, _, _ => vs
def dPutK (ks : List D) (k : D) : List D := if dHas ks k = true then ks else ks ++ [k]
def dPutW (ks vs : List D) (k v : D) : List D := if dHas ks k = true then dPutV ks vs k v else vs ++ [v]
/-- a key: an int, a text; or a tuple of such -/
def D.key : D → Option Key
  | .int i => some (.inl i)
  | .str s => some (.inr s)
  | _ => Option.none
def keysA : List D → Option (List Key)
  | [] => some []
  | d :: ds => match d.key, keysA ds with
    | some k, some ks => some (k :: ks)
    | _, _ => none
def D.keyT : D → Option (List Key)
  | .tuple ds => keysA ds
  | _ => Option.none
theorem key_kD {d : D} {k : Key} (h : d.key = some k) : d = kD k := by
  cases d <;> first
    | (cases h; done)
    | (cases h; rfl)
theorem keysA_kD : ∀ {ds : List D} {ks : List Key}, keysA ds = some ks → ds = ks.map kD
  | [], ks, h => by cases h; rfl
  | d :: ds, ks, h => by
    unfold keysA at h
    split at h
    · rename_i k ks' h1 h2
      cases h
      rw [key_kD h1, keysA_kD h2]
      rfl
    · cases h
theorem keyT_kD {d : D} {ks : List Key} (h : d.keyT = some ks) : d = .tuple (ks.map kD) := by
  cases d <;> first
    | (cases h; done)
    | (rw [keysA_kD (show keysA _ = some ks from h)])
theorem eqb_kD (a b : Key) : D.eqb (kD a) (kD b) = decide (a = b) := by
  cases a <;> cases b <;> simp [kD, D.eqb] <;> first
    | (rename_i x y; by_cases e : x = y <;> simp [e])
    | rfl
theorem eqbA_kD : ∀ (a b : List Key), D.eqbA (a.map kD) (b.map kD) = decide (a = b)
  | [], [] => by simp [D.eqbA]
  | [], _ :: _ => by simp [D.eqbA]
  | _ :: _, [] => by simp [D.eqbA]
  | x :: a, y :: b => by
    simp only [List.map_cons, D.eqbA, eqb_kD, eqbA_kD a b]
    by_cases h1 : x = y <;> by_cases h2 : a = b <;> simp [h1, h2]
section
variable {K : PySem.W.Frag} {F H F' H' : Hp}
/-- a dict's items against its data, whatever its keys' sort -/
theorem find_data {κ : Type} [DecidableEq κ] (enc : κ → D) (he : ∀ a b, D.eqb (enc a) (enc b) = decide (a = b)) (k : κ) : ∀ {kvs : List (κ × V)} {vs : List D}, DnA K F (kvs.map (·.2)) vs →
    match dFind (kvs.map fun p => enc p.1) vs (enc k) with
    | some d => ∃ v, valV kvs k = some v ∧ Dn K F v d
    | none => valV kvs k = none
  | [], vs, h => by
    cases h
    rfl
  | p :: kvs, vs, h => by
    cases h with
    | @cons v _ d ds hd ha =>
      simp only [List.map_cons, dFind, he]
      by_cases e : p.1 = k
      · simp only [e, decide_true, if_true]
        exact ⟨p.2, valV_pos e, hd⟩
      · simp only [e, decide_false, Bool.false_eq_true, if_false]
        have := find_data enc he k ha
        rw [valV_neg e]
        exact this
theorem has_data {κ : Type} [DecidableEq κ] (enc : κ → D) (he : ∀ a b, D.eqb (enc a) (enc b) = decide (a = b)) (k : κ) (kvs : List (κ × V)) : dHas (kvs.map fun p => enc p.1) (enc k) = (valV kvs k).isSome := by
  rw [← valV_any]
  unfold dHas
  rw [List.any_map]
  congr 1
  funext p
  exact he _ _
theorem put_data {κ : Type} [DecidableEq κ] (enc : κ → D) (he : ∀ a b, D.eqb (enc a) (enc b) = decide (a = b)) (k : κ) {v : V} {d : D} (hd : Dn K F v d) {kvs : List (κ × V)} {vs : List D} (h : DnA K F (kvs.map (·.2)) vs) :
    (putK kvs k v).map (fun p => enc p.1) = dPutK (kvs.map fun p => enc p.1) (enc k) ∧ DnA K F ((putK kvs k v).map (·.2)) (dPutW (kvs.map fun p => enc p.1) vs (enc k) d) := by
  unfold putK dPutK dPutW
  rw [has_data enc he, ← valV_any]
  by_cases hk : (kvs.any fun kv => decide (kv.1 = k)) = true
  · rw [if_pos hk, if_pos hk, if_pos hk]
    refine ⟨?_, ?_⟩
    · rw [List.map_map]
      congr 1
      funext p
      simp only [Function.comp]
      split <;> rfl
    · clear hk
      induction kvs generalizing vs with
      | nil => cases h; exact .nil
      | cons p kvs ih =>
        cases h with
        | @cons _ _ d' ds hd' ha =>
          simp only [List.map_cons, dPutV, he]
          refine .cons ?_ (ih ha)
          by_cases e : p.1 = k
          · simp only [e, decide_true, if_true]; exact hd
          · simp only [e, decide_false, Bool.false_eq_true, if_false]; exact hd'
  · rw [if_neg hk, if_neg hk, if_neg hk]
    refine ⟨by simp, ?_⟩
    rw [List.map_append]
    exact h.app (.cons hd .nil)
abbrev encT : List Key → D := fun ks => .tuple (ks.map kD)
theorem encT_eq (a b : List Key) : D.eqb (encT a) (encT b) = decide (a = b) := by
  show D.eqb (.tuple _) (.tuple _) = _
  unfold D.eqb
  exact eqbA_kD a b
theorem dna_keys : ∀ {ks : List Key} {xs : List V}, DnA K F xs (ks.map kD) → xs = ks.map kV
  | [], xs, h => by cases h; rfl
  | k :: ks, xs, h => by
    cases h with
    | cons h ha =>
      rw [dna_keys ha]
      cases k with
      | inl i => rw [show _ = _ from h.int_inv]; rfl
      | inr s => rw [show _ = _ from h.str_inv]; rfl
/-- the key in a dict of this sort (t: keys that are tuples) -/
def keyOk (t : Bool) (k : D) : Bool := if t = true then k.keyT.isSome else k.key.isSome
/-- a key's look-up in an object that is a dict -/
theorem dget_data {t : Bool} {a : Addr} {o : HO} {ks vs : List D} {xs : List V} {k : D} {y : V} (fh : Ex F H) (ha : H a = some o) (hc : DcO t o ks xs) (hd : DnA K F xs vs) (hk : keyOk t k = true) (hy : Dn K F y k) :
    ∃ r, DGet H a y r ∧ r.isSome = dHas ks k ∧ match dFind ks vs k with
      | some d => ∃ v, r = some v ∧ Dn K F v d
      | none => r = none := by
  rcases hc with ⟨rfl, kvs, rfl, rfl, rfl⟩ | ⟨rfl, kvs, rfl, rfl, rfl⟩
  · unfold keyOk at hk
    rw [if_neg Bool.false_ne_true] at hk
    obtain ⟨kk, e⟩ := Option.isSome_iff_exists.mp hk
    rw [key_kD e] at hy ⊢
    have hyv : y = kV kk := by
      cases kk with
      | inl i => exact hy.int_inv
      | inr s => exact hy.str_inv
    rw [hyv]
    refine ⟨_, DGet.k ha, (has_data kD eqb_kD kk kvs).symm, ?_⟩
    have := find_data kD eqb_kD kk hd
    exact this
  · unfold keyOk at hk
    rw [if_pos rfl] at hk
    obtain ⟨kk, e⟩ := Option.isSome_iff_exists.mp hk
    rw [keyT_kD e] at hy ⊢
    obtain ⟨b, zs, rfl, q1, q2⟩ := hy.tuple_invS
    have hz := dna_keys q2
    subst hz
    refine ⟨_, DGet.t ha (fh _ _ q1), (has_data encT encT_eq kk kvs).symm, ?_⟩
    exact find_data encT encT_eq kk hd
theorem dput_data {p t : Bool} {a : Addr} {o : HO} {ks vs : List D} {xs : List V} {k d : D} {y v : V} (fh : Ex F H) (ha : H a = some o) (hc : DcO t o ks xs) (hd : DnA K F xs vs) (hk : keyOk t k = true) (hy : Dn K F y k) (hv : Dn K F v d) (hz : ks.length < 16000000) :
    ∃ o' xs', DPut H a y v (upd H a o') ∧ CeO o' (.k p t (dPutK ks k) (dPutW ks vs k d)) xs' ∧ DnA K F xs' (dPutW ks vs k d) := by
  rcases hc with ⟨rfl, kvs, rfl, rfl, rfl⟩ | ⟨rfl, kvs, rfl, rfl, rfl⟩
  · unfold keyOk at hk
    rw [if_neg Bool.false_ne_true] at hk
    obtain ⟨kk, e⟩ := Option.isSome_iff_exists.mp hk
    rw [key_kD e] at hy ⊢
    have hyv : y = kV kk := by
      cases kk with
      | inl i => exact hy.int_inv
      | inr s => exact hy.str_inv
    rw [hyv]
    obtain ⟨e1, e2⟩ := put_data kD eqb_kD kk hv hd
    exact ⟨_, _, DPut.k ha (small_line (by simpa using hz)), .inl ⟨rfl, putK kvs kk v, rfl, e1, rfl⟩, e2⟩
  · unfold keyOk at hk
    rw [if_pos rfl] at hk
    obtain ⟨kk, e⟩ := Option.isSome_iff_exists.mp hk
    rw [keyT_kD e] at hy ⊢
    obtain ⟨b, zs, rfl, q1, q2⟩ := hy.tuple_invS
    have hz' := dna_keys q2
    subst hz'
    obtain ⟨e1, e2⟩ := put_data encT encT_eq kk hv hd
    exact ⟨_, _, DPut.t ha (fh _ _ q1) (small_line (by simpa using hz)), .inr ⟨rfl, putK kvs kk v, rfl, e1, rfl⟩, e2⟩
end
/-! ### rules for dicts -/
/-- {} (t: its keys will be tuples) -/
def mDNew (t : Bool) : M Ce := fun e => .ok (.k false t [] [], e)
def sDPut (i : Nat) (mk mv : M D) : En → Out := fun e => onR (mv e) fun v e1 => match e1[i]? with
  | some (some (.k _ _ _ _)) => onR (mk e1) fun k e2 => (match e2[i]? with
    | some (some (.k p t ks vs)) => if (keyOk t k = true ∧ ks.length < 16000000) then .nx (e2.set i (some (.k p t (dPutK ks k) (dPutW ks vs k v)))) else .no
    | _ => .no)
  | _ => .no
def dgetD : D → D → Rs Ce
  | .dict t ks vs, k => if keyOk t k = true then (match dFind ks vs k with
    | some d => .ok (.f d)
    | none => .no) else .no
  | _, _ => .no
section
variable {X : Cx} {K : PySem.W.Frag} {G : Bs} {F F1 H H1 : Hp} {σ : L2.St} {e e1 : En} {E : Ends} {v : V} {c : Ce} {d : D} {i : Nat} {a : Addr}
variable {st : Stmt} {sts : List Stmt} {ex ey ez tg : Expr} {es : List Expr} {pos pos' apos cpos : Pos} {x : Str}
theorem pn_dnewK : PN X (.Dict [] [] pos) (mDNew false) := PEimp pe_dnewK fun σ H Q ⟨G, F, e, c, e', r, hm, q⟩ => by
  cases hm
  intro p hp
  exact q _ F _ (r.step (Go.newO r.fh hp)) (.inr ⟨rfl, p, _, [], rfl, hp, ex_none r.fh hp, upd_same, .inl ⟨rfl, [], rfl, rfl, rfl⟩, .nil⟩)
theorem pn_dnewT : PN X (.Dict [] [] pos) (mDNew true) := PEimp pe_dnewT fun σ H Q ⟨G, F, e, c, e', r, hm, q⟩ => by
  cases hm
  intro p hp
  exact q _ F _ (r.step (Go.newO r.fh hp)) (.inr ⟨rfl, p, _, [], rfl, hp, ex_none r.fh hp, upd_same, .inr ⟨rfl, [], rfl, rfl, rfl⟩, .nil⟩)
theorem dict_at (h : e[i]? = some (some c)) (r : R K G F H σ e) {p t : Bool} {ks vs : List D} (hc : c = .k p t ks vs) : ∃ a o xs, σ[i]? = some (some (.ref a)) ∧ F a = none ∧ H a = some o ∧ DcO t o ks xs ∧ DnA K F xs vs := by
  subst hc
  obtain ⟨v0, s0, a0⟩ := r.at_ i _ h
  obtain ⟨a, o, xs, rfl, z1, z2, z3, z4, _⟩ := a0.own rfl
  exact ⟨a, o, xs, s0, z1, z2, z3, z4⟩
theorem pds_dput {mk mv : M D} (hu : X.A.units + 1 < cLine) (ho : PE X ex (tVar i)) (hi : PF X ey mk) (hv : PF X ez mv) (hs : swapsWith ez (some (.Subscript ex ey pos')) pos.line X.env = pure false := by rfl) :
    PDS X (.Assign [.Subscript ex ey pos'] ez pos) (sDPut i mk mv) := PSimp (ps_dput hu ho hi hv hs) fun E σ H ⟨G, F, e, r, hp⟩ => by
  obtain ⟨dv, e1, h1, hp⟩ := onR_inv hp
  refine ⟨G, F, e, dv, e1, r, h1, fun v F1 H1 n1 hdv => ?_⟩
  split at hp
  · rename_i p0 t0 ks0 vs0 g0
    obtain ⟨dk, e2, h2, hp⟩ := onR_inv hp
    obtain ⟨a, o0, xs0, s0, _⟩ := dict_at g0 n1.r rfl
    refine ⟨.ref a, s0, G, F1, e1, dk, e2, n1.r, h2, fun y F2 H2 n2 hdk => ?_⟩
    split at hp
    · rename_i p t ks vs g2
      by_cases hz : keyOk t dk = true ∧ ks.length < 16000000
      · rw [if_pos hz] at hp
        obtain ⟨a', o, xs, s1, y1, y2, y3, y4⟩ := dict_at g2 n2.r rfl
        rw [s0] at s1
        cases s1
        obtain ⟨o', xs', hput, hce, hdn⟩ := dput_data (p := p) n2.r.fh y2 y3 y4 hz.1 hdk (n2.dn hdv) hz.2
        refine ⟨a, _, rfl, hput, ?_⟩
        have n3 := n2.r.wr (c' := .k p t (dPutK ks dk) (dPutW ks vs dk dv)) g2 s0 rfl (by cases p <;> cases t <;> rfl) hce hdn
        exact hp F2 _ σ n3.r (n1.go.ff.trans n2.go.ff)
      · rw [if_neg hz] at hp
        exact hp.elim
    · exact hp.elim
  · exact hp.elim
/-- d[k], the key there -/
theorem pf_dget {md : M Hd} {mk : M D} (hu : X.A.units + 1 < cLine) (ho : PH X ex md) (hi : PF X ey mk) (hs : NoSl ey) : PN X (.Subscript ex ey pos) (m2 dgetD md (mH (mN mk))) := PEimp (pe_dget hu ho (ph_f hi) hs) fun σ H Q ⟨G, F, e, c, e', r, hm, q⟩ => by
  obtain ⟨x, e1, h1, hm⟩ := bind_ok2 hm
  obtain ⟨y, e2, h2, hm⟩ := bind_ok2 hm
  obtain ⟨dx, h3, hm⟩ := Rs.bind_eq hm
  obtain ⟨dy, h4, hm⟩ := Rs.bind_eq hm
  obtain ⟨c', h5, hm⟩ := Rs.bind_eq hm
  cases hm
  refine ⟨G, F, e, x, e1, r, h1, fun vx F1 H1 n1 hx => ⟨G, F1, e1, y, _, n1.r, h2, fun vy F2 H2 n2 hy => ?_⟩⟩
  obtain ⟨cy, e3, h6, h7⟩ := bind_ok2 h2
  obtain ⟨dk, e4, h8, h9⟩ := bind_ok2 h6
  cases h9
  cases h7
  cases h4
  have hdk : Dn X.K F2 vy dk := by
    rcases hy with ⟨d, q1, q2⟩ | ⟨_, a, o, xs, _, _, _, _, _, q1, _⟩
    · cases q1; exact q2
    · exact q1.elim
  have hdx : ∃ t ks vs, dx = .dict t ks vs := by
    cases dx <;> first
      | exact ⟨_, _, _, rfl⟩
      | (cases h5; done)
  obtain ⟨t, ks, vs, rfl⟩ := hdx
  unfold dgetD at h5
  obtain ⟨hk, h5⟩ := ite_ok h5
  obtain ⟨a, o, xs, rfl, q1, q2, q3⟩ := ((hx.nx n2).vw n2.r h3).dict n2.r.fh
  obtain ⟨rr, g1, g2, g3⟩ := dget_data n2.r.fh q1 q2 q3 hk hdk
  split at h5
  · rename_i d hf
    cases h5
    simp only [hf] at g3
    obtain ⟨w, rfl, g4⟩ := g3
    exact ⟨a, w, rfl, g1, q w F2 H2 (n1.trans n2) (.inl ⟨d, rfl, g4⟩)⟩
  · cases h5
/-! ### two at once: x, y = a, b, new lists and dicts too -/
def sParN (i j : Nat) (ma mb : M Ce) : En → Out := fun e => onR (ma e) fun c1 e1 => onR (mb e1) fun c2 e2 => if (ioAt e2 i || ioAt e2 j) = true then .no else .nx ((e2.set i (some c1)).set j (some c2))
theorem ioAt_setN {i j : Nat} (hc : c.io = false) (h : ioAt e j = false) : ioAt (e.set i (some c)) j = false := by
  unfold ioAt at h ⊢
  by_cases hj : j = i
  · subst hj
    by_cases hl : j < e.length
    · rw [List.getElem?_set_self hl]; exact hc
    · rw [List.getElem?_eq_none (by simpa using Nat.le_of_not_lt hl)]
  · rw [List.getElem?_set_ne (Ne.symm hj)]; exact h
theorem NAt.io {H F' H' : Hp} (h : NAt K H F' H' c v) : c.io = false := by
  rcases h with ⟨d, rfl, _⟩ | ⟨h, _⟩
  · rfl
  · exact h
theorem pds_parN {i j : Nat} {x y : Str} {px py pt : Pos} {kt k2 : Nat} {pt2 : Pos} {ma mb : M Ce} (hc : X.calm = true) (hN : X.N.Nodup) (hi : X.N[i]? = some x) (hj : X.N[j]? = some y) (hij : i ≠ j)
    (hx : X.env.scope.names.lookup x = some .local) (hy : X.env.scope.names.lookup y = some .local) (ha : PN X ex ma) (hb : PN X ey mb)
    (hw : swappedStores [.Tuple [.Name x px, .Name y py] kt pt] (.Tuple [ex, ey] k2 pt2) X.env = pure (some [x, y]))
    (hs1 : starEach [ex, ey] X.env = (false, eval ex X.env) :: starEach [ey] X.env := by rfl) (hs2 : starEach [ey] X.env = (false, eval ey X.env) :: starEach [] X.env := by rfl)
    (hs : swapsWithSole [.Tuple [.Name x px, .Name y py] kt pt] (.Tuple [ex, ey] k2 pt2) pos.line X.env = pure false := by rfl) : PDS X (.Assign [.Tuple [.Name x px, .Name y py] kt pt] (.Tuple [ex, ey] k2 pt2) pos) (sParN i j ma mb) :=
  PSimp (ps_par hc hN hi hj hij hx hy (pa_cons ha (pa_cons hb pa_nil hs2) hs1) hw hs) fun E σ H ⟨G, F, e, r, hp⟩ => by
    obtain ⟨c1, e1, h1, hp⟩ := onR_inv hp
    obtain ⟨c2, e2, h2, hp⟩ := onR_inv hp
    obtain ⟨hio, hp⟩ := post_ite hp
    obtain ⟨h3, h4⟩ := Bool.or_eq_false_iff.mp hio
    refine ⟨G, F, e, c1, e1, r, h1, fun v1 F1 H1 n1 a1 => ⟨G, F1, e1, c2, e2, n1.r, h2, fun v2 F2 H2 n2 a2 => ⟨v1, v2, rfl, ?_⟩⟩⟩
    have hat1 := (a1.hat r n1).nx n2
    have r1 := n2.r.set (i := i) h3 hat1
    refine hp F2 H2 _ (r1.set (i := j) (ioAt_setN a1.io h4) ?_) (n1.go.ff.trans n2.go.ff)
    rcases a2 with ⟨d, q1, q2⟩ | ⟨q1, a, o, xs, rfl, q2, q3, q4, q5, q6⟩
    · exact .inl ⟨d, q1, q2⟩
    · obtain ⟨z1, z2, _⟩ := n1.r.new q2
      refine .inr ⟨q1, a, o, xs, rfl, z2, q3, q4, fun ⟨k, ck, g1, g2, g3⟩ => ?_, q5, q6⟩
      by_cases hk : k = i
      · subst hk
        have hl : k < e2.length := by
          have := (List.getElem?_eq_some_iff.mp g1).1
          simpa using this
        rw [List.getElem?_set_self hl] at g1
        cases g1
        rw [List.getElem?_set_self (by rw [← n2.r.len]; exact hl)] at g3
        cases g3
        rcases a1 with ⟨d, q7, _⟩ | ⟨_, b, u, ys, q7, w1, w2, w3, _⟩
        · rw [q7] at g2; cases g2
        · cases q7
          rw [q2] at w3
          cases w3
      · rw [List.getElem?_set_ne (Ne.symm hk)] at g1 g3
        exact z1 (sh_lv n2.sh ⟨k, ck, g1, g2, g3⟩)
/-! ### x[i] = e, x a list of one's own -/
def sLPut (i : Nat) (mj mv : M D) : En → Out := fun e => onR (mv e) fun v e1 => match e1[i]? with
  | some (some (.l _ _)) => onR (mj e1) fun k e2 => (match e2[i]?, k with
    | some (some (.l p ds)), .int j => (match ixN ds.length j with
      | some jj => .nx (e2.set i (some (.l p (ds.set jj v))))
      | none => .no)
    | _, _ => .no)
  | _ => .no
theorem pds_lput {mj mv : M D} (ho : PE X ex (tVar i)) (hi : PF X ey mj) (hv : PF X ez mv) (hs : swapsWithSole [.Subscript ex ey pos'] ez pos.line X.env = pure false := by rfl) (hw : swappedStores [.Subscript ex ey pos'] ez X.env = pure none := by rfl)
    (h1 : (assignEach [.Subscript ex ey pos'] X.env).map (·.2) = [assign (.Subscript ex ey pos') X.env] := by rfl)
    (ha : ∀ v, assign (.Subscript ex ey pos') X.env v = (do
      let ov ← holding [v] (eval ex X.env)
      let iv ← holding [v, ov] (eval ey X.env)
      standAt pos'
      holding [v, ov, iv] (setItem ov iv v)
      release [v, ov, iv] []) := by intro _; rfl) :
    PDS X (.Assign [.Subscript ex ey pos'] ez pos) (sLPut i mj mv) := PSimp (ps_asg hv (pg_sub ho hi set_list ha) hs hw h1) fun E σ H ⟨G, F, e, r, hp⟩ => by
  obtain ⟨dv, e1, h1, hp⟩ := onR_inv hp
  refine ⟨G, F, e, dv, e1, r, h1, fun v F1 H1 n1 hdv => ?_⟩
  split at hp
  · rename_i p0 ds0 g0
    obtain ⟨dk, e2, h2, hp⟩ := onR_inv hp
    obtain ⟨a, xs0, s0, _⟩ := lst_at g0 n1.r rfl
    refine ⟨.ref a, s0, G, F1, e1, dk, e2, n1.r, h2, fun y F2 H2 n2 hdk => ?_⟩
    split at hp
    · rename_i p ds j g2
      split at hp
      · rename_i jj hj
        obtain ⟨a', xs, s1, y1, y2, y4⟩ := lst_at g2 n2.r rfl
        rw [s0] at s1
        cases s1
        refine ⟨a, xs, j, jj, rfl, hdk.int_inv, y2, by rw [y4.len]; exact hj, ?_⟩
        have n3 := n2.r.wr (c' := .l p (ds.set jj dv)) g2 s0 rfl (by cases p <;> rfl) (o' := .lst (xs.set jj v)) (xs' := xs.set jj v) rfl (y4.set jj (n2.dn hdv))
        exact hp F2 _ σ n3.r (n1.go.ff.trans n2.go.ff)
      · exact hp.elim
    · exact hp.elim
  · exact hp.elim
end
/-! ### built-in functions once more -/
section
variable {K : PySem.W.Frag} {F H F' H' : Hp}
def rLenA (K : PySem.W.Frag) : List V → Hp → VK → Prop := fun xs H Q => (∃ x n, xs = [x] ∧ LenV K x H n ∧ Q (.int n) H) ∨ (∃ a kvs, xs = [V.ref a] ∧ H a = some (.dK kvs) ∧ Q (.int kvs.length) H) ∨ rLenT xs H Q
theorem call_lenA {X : Cx} : CallR X (.builtin "len") (rLenA X.K) := call_len.or (call_lenD.or call_len_dT)
theorem snd_len : SndL K (rLenA K) lenD := fun F H xs ds c Q fh hx hg q => by
  unfold lenD at hg
  split at hg
  · obtain ⟨h1, hg⟩ := ite_ok hg
    cases hg
    obtain ⟨x, rfl, h⟩ := hx.one (ds := [])
    rw [h.str]
    exact .inl ⟨_, _, rfl, ⟨h1, rfl⟩, ret1 fh (.int _) rfl q⟩
  · cases hg
    obtain ⟨x, rfl, h⟩ := hx.one (ds := [])
    obtain ⟨a, xs, rfl, h3, h4⟩ := h.list fh
    exact .inl ⟨_, _, rfl, .inl ⟨xs, SqL.of h3, rfl⟩, ret1 fh (.int _) (by rw [h4.len]) q⟩
  · cases hg
    obtain ⟨x, rfl, h⟩ := hx.one (ds := [])
    obtain ⟨a, xs, rfl, h3, h4⟩ := h.ro fh
    exact .inl ⟨_, _, rfl, .inl ⟨xs, h3, rfl⟩, ret1 fh (.int _) (by rw [h4.len]) q⟩
  · cases hg
    obtain ⟨x, rfl, h⟩ := hx.one (ds := [])
    obtain ⟨a, xs, rfl, h3, h4, _⟩ := h.tuple fh
    exact .inl ⟨_, _, rfl, .inr ⟨xs, h3, rfl⟩, ret1 fh (.int _) (by rw [h4.len]) q⟩
  · cases hg
    obtain ⟨x, rfl, h⟩ := hx.one (ds := [])
    obtain ⟨a, o, xs, rfl, h3, h4, h5⟩ := h.dict fh
    rcases h4 with ⟨_, kvs, rfl, rfl, rfl⟩ | ⟨_, kvs, rfl, rfl, rfl⟩
    · exact .inr (.inl ⟨a, kvs, rfl, h3, ret1 fh (.int _) (by rw [List.length_map]) q⟩)
    · exact .inr (.inr ⟨a, kvs, rfl, h3, ret1 fh (.int _) (by rw [List.length_map]) q⟩)
  · cases hg
def tupleD : List D → Rs Ce
  | [.list ds] => .ok (.f (.tuple ds))
  | [.tuple ds] => .ok (.f (.tuple ds))
  | _ => .no
def rTupA (K : PySem.W.Frag) : List V → Hp → VK → Prop := fun xs H Q => ∃ p ys, xs = [.ref p] ∧ ((SqL K H p ys ∧ ∀ l, H l = none → Q (.ref l) (upd H l (.tup ys))) ∨ (SqT K H p ys ∧ Q (.ref p) H))
theorem snd_tuple : SndL K (rTupA K) tupleD := fun F H xs ds c Q fh hx hg q => by
  unfold tupleD at hg
  split at hg
  · cases hg
    obtain ⟨x, rfl, h⟩ := hx.one (ds := [])
    obtain ⟨a, xs, rfl, h3, h4⟩ := h.list fh
    refine ⟨a, xs, rfl, .inl ⟨SqL.of h3, fun l hl => ?_⟩⟩
    have go : Go F H (upd F l (.tup xs)) (upd H l (.tup xs)) noA := Go.newF fh hl
    exact q _ _ _ go (.inl ⟨_, rfl, .tup upd_same (h4.mono go.ff)⟩)
  · cases hg
    obtain ⟨x, rfl, h⟩ := hx.one (ds := [])
    obtain ⟨a, xs, rfl, h3, h4, h5⟩ := h.tuple fh
    exact ⟨a, xs, rfl, .inr ⟨h3, ret1 fh h5 rfl q⟩⟩
  · cases hg
def listD : List D → Rs Ce
  | [.list ds] => .ok (.l false ds)
  | [.ro ds] => .ok (.l false ds)
  | [.tuple ds] => .ok (.l false ds)
  | _ => .no
def rListA (K : PySem.W.Frag) : List V → Hp → VK → Prop := fun xs H Q => ∃ p ys, xs = [.ref p] ∧ (SqL K H p ys ∨ SqT K H p ys) ∧ ∀ l, H l = none → Q (.ref l) (upd H l (.lst ys))
theorem snd_list : SndL K (rListA K) listD := fun F H xs ds c Q fh hx hg q => by
  have key : ∀ (a : Addr) (ys : List V) (es : List D), DnA K F ys es → (SqL K H a ys ∨ SqT K H a ys) → c = .l false es → xs = [.ref a] → rListA K xs H Q := fun a ys es hd hs hc hxs =>
    ⟨a, ys, hxs, hs, fun l hl => q _ F _ (Go.newO fh hl) (.inr ⟨by rw [hc]; rfl, l, _, ys, rfl, hl, ex_none fh hl, upd_same, by rw [hc]; rfl, by rw [hc]; exact hd⟩)⟩
  unfold listD at hg
  split at hg
  · cases hg
    obtain ⟨x, rfl, h⟩ := hx.one (ds := [])
    obtain ⟨a, ys, rfl, h3, h4⟩ := h.list fh
    exact key a ys _ h4 (.inl (SqL.of h3)) rfl rfl
  · cases hg
    obtain ⟨x, rfl, h⟩ := hx.one (ds := [])
    obtain ⟨a, ys, rfl, h3, h4⟩ := h.ro fh
    exact key a ys _ h4 (.inl h3) rfl rfl
  · cases hg
    obtain ⟨x, rfl, h⟩ := hx.one (ds := [])
    obtain ⟨a, ys, rfl, h3, h4, _⟩ := h.tuple fh
    exact key a ys _ h4 (.inr h3) rfl rfl
  · cases hg
end
/-! ### isinstance -/
def D.ty : D → String
  | .none => "NoneType" | .bool _ => "bool" | .int _ => "int" | .str _ => "str" | .list _ => "list" | .ro _ => "list" | .tuple _ => "tuple" | .dict _ _ _ => "dict"
def isT (T : String) (d : D) : Bool := d.ty == T || (T == "int" && d.ty == "bool")
def mIs (T : String) (m : M Hd) : M D := fun e => (m e).bind fun p => (p.1.get p.2).bind fun d => .ok (.bool (isT T d), p.2)
/-- a class that isinstance is asked for -/
structure TyOk (T : String) : Prop where
  ok : ∀ n ∈ ["NoneType", "bool", "int", "str", "list", "tuple", "dict"], kitB n T = some (n == T || (T == "int" && n == "bool"))
theorem tyOk_int : TyOk "int" := ⟨by decide +kernel⟩
theorem tyOk_bool : TyOk "bool" := ⟨by decide +kernel⟩
theorem tyOk_str : TyOk "str" := ⟨by decide +kernel⟩
theorem tyOk_tuple : TyOk "tuple" := ⟨by decide +kernel⟩
theorem tyOk_list : TyOk "list" := ⟨by decide +kernel⟩
theorem tyOk_dict : TyOk "dict" := ⟨by decide +kernel⟩
section
variable {X : Cx} {K : PySem.W.Frag} {F H : Hp} {ex : Expr} {pos p p2 : Pos}
theorem sqL_ty {a : Addr} {xs : List V} (h : SqL K H a xs) : TyX K H (.ref a) (.type "list") := by
  rcases h with (h | ⟨o, h⟩) | ⟨o, its, n, hk, hc, _⟩
  · exact .base (.lst h)
  · exact .base (.frz h)
  · exact .kList hk hc
theorem Vw.ty {d : D} {v : V} (h : Vw K F H d v) (fh : Ex F H) : TyX K H v (.type d.ty) := by
  cases d with
  | none => rw [h.none]; exact .base .non
  | bool b => rw [h.bool]; exact .base (.bl b)
  | int i => rw [h.int]; exact .base (.int i)
  | str s => rw [h.str]; exact .base (.str s)
  | list ds =>
    obtain ⟨a, xs, rfl, h1, _⟩ := h.list fh
    exact .base (.lst h1)
  | ro ds =>
    obtain ⟨a, xs, rfl, h1, _⟩ := h.ro fh
    exact sqL_ty h1
  | tuple ds =>
    obtain ⟨a, xs, rfl, h1, _, h2⟩ := h.tuple fh
    obtain ⟨a', xs', e, h3, _⟩ := h2.tuple_invS
    cases e
    exact .base (.tup (fh _ _ h3))
  | dict t ks vs =>
    obtain ⟨a, o, xs, rfl, h1, h2, _⟩ := h.dict fh
    rcases h2 with ⟨_, kvs, rfl, _⟩ | ⟨_, kvs, rfl, _⟩
    · exact .base (.dK h1)
    · exact .base (.dT h1)
theorem pf_isi {T : String} {y : Str} {m : M Hd} (to : TyOk T) (hg : Gl X "isinstance") (hm : X.mg "isinstance" = none) (h : PH X ex m) (gy : Gl X y) (my : X.mg y = none) (by_ : bootBuiltins y = some (.type T)) (ny : y ≠ "__name__" := by decide) (dy : (y == ("__debug__" : Str)) = false := by decide)
    (he : starEach [ex, .Name y p2] X.env = (false, eval ex X.env) :: starEach [.Name y p2] X.env := by rfl) (hs2 : starEach [.Name y p2] X.env = (false, eval (.Name y p2) X.env) :: starEach [] X.env := by rfl) (hpl : (backTo pos (starEach [.Name y p2] X.env)).any (·.1) = false := by rfl) :
    PF X (.Call (.Name "isinstance" p) [ex, .Name y p2] [] pos) (mIs T m) :=
  PEimp (pe_callB call_isi hg hm (show bootBuiltins "isinstance" = some (.builtin "isinstance") by decide +kernel) (pa_cons h (pa_cons (pe_bltn (v := .ty T) gy my by_ rfl ny dy) pa_nil hs2) he) (by decide) (by decide) he hpl) fun σ H Q ⟨G, F, e, d, e', r, hm, q⟩ => by
    obtain ⟨hd, e1, h1, hm⟩ := bind_ok2 hm
    obtain ⟨dx, h2, hm⟩ := Rs.bind_eq hm
    cases hm
    refine ⟨G, F, e, hd, _, r, h1, fun v F1 H1 n hv => ⟨v, .ty T, .type dx.ty, .type T, isT T dx, rfl, .ty T, (hv.vw n.r h2).ty n.r.fh, ?_, q _ F1 H1 n (.bl _)⟩⟩
    refine kit_ty ?_
    have : dx.ty ∈ ["NoneType", "bool", "int", "str", "list", "tuple", "dict"] := by cases dx <;> simp [D.ty]
    exact to.ok _ this
/-- "..".join(texts) -/
def textsOf : List D → Option (List Str)
  | [] => some []
  | .str s :: ds => (textsOf ds).map fun ss => s :: ss
  | _ :: _ => none
def joinD : D → D → Rs Ce
  | .str a, .list ds => (match textsOf ds with
    | some ys => if (ys.map (·.length)).sum + ys.length * a.length ≤ 16777216 then .ok (.f (.str (Txt.join a ys))) else .no
    | none => .no)
  | .str a, .tuple ds => (match textsOf ds with
    | some ys => if (ys.map (·.length)).sum + ys.length * a.length ≤ 16777216 then .ok (.f (.str (Txt.join a ys))) else .no
    | none => .no)
  | _, _ => .no
theorem textsOf_eq : ∀ {ds : List D} {ys : List Str}, textsOf ds = some ys → ds = ys.map .str
  | [], ys, h => by cases h; rfl
  | d :: ds, ys, h => by
    cases d <;> first
      | (cases h; done)
      | skip
    unfold textsOf at h
    cases q : textsOf ds with
    | none => rw [q] at h; cases h
    | some zs =>
      rw [q] at h
      cases h
      rw [textsOf_eq q]
      rfl
/-- a method of a text with one argument that is first a text -/
def mJoin (ma mb : M Hd) : M Ce := fun e => (ma e).bind fun p => (p.1.get p.2).bind fun x => if isT "str" x = true then (mb p.2).bind fun q => (q.1.get q.2).bind fun y => (joinD x y).bind fun c => .ok (c, q.2) else .no
theorem pn_join {apos : Pos} {eo : Expr} {ma mb : M Hd} (ho : PH X eo ma) (he : PH X ex mb) (hs : starEach [ex] X.env = [(false, eval ex X.env)] := by rfl) (hbase : attributeBase eo "join" X.env (eval eo X.env) = eval eo X.env := by rfl) (hline : (apos.endLine == pos.line) = true := by rfl) :
    PN X (.Call (.Attribute eo "join" apos) [ex] [] pos) (mJoin ma mb) := PEimp (pe_join ho he hs hbase hline) fun σ H Q ⟨G, F, e, c, e', r, hm, q⟩ => by
  obtain ⟨x, e1, h1, hm⟩ := bind_ok2 hm
  obtain ⟨dx, h2, hm⟩ := Rs.bind_eq hm
  obtain ⟨hx, hm⟩ := ite_ok hm
  obtain ⟨y, e2, h3, hm⟩ := bind_ok2 hm
  obtain ⟨dy, h4, hm⟩ := Rs.bind_eq hm
  obtain ⟨c', h5, hm⟩ := Rs.bind_eq hm
  cases hm
  have hdx : ∃ s, dx = .str s := by
    cases dx <;> first
      | exact ⟨_, rfl⟩
      | (simp [isT, D.ty] at hx; done)
  obtain ⟨s, rfl⟩ := hdx
  refine ⟨G, F, e, x, e1, r, h1, fun vx F1 H1 n1 hvx => ⟨⟨s, (hvx.vw n1.r h2).str⟩, G, F1, e1, y, _, n1.r, h3, fun vy F2 H2 n2 hvy => ?_⟩⟩
  rw [(hvx.vw n1.r h2).str]
  have vw := hvy.vw n2.r h4
  have nn := n1.trans n2
  cases dy <;> first
    | (cases h5; done)
    | skip
  · rename_i ds
    simp only [joinD] at h5
    split at h5
    · rename_i ys hy
      obtain ⟨hz, h5⟩ := ite_ok h5
      cases h5
      obtain ⟨a, xs, rfl, g1, g2⟩ := vw.list n2.r.fh
      rw [textsOf_eq hy] at g2
      rw [g2.strs] at g1
      exact ⟨s, a, ys, rfl, rfl, .inl (SqL.of g1), hz, q _ F2 H2 nn (.inl ⟨_, rfl, .str _⟩)⟩
    · cases h5
  · rename_i ds
    simp only [joinD] at h5
    split at h5
    · rename_i ys hy
      obtain ⟨hz, h5⟩ := ite_ok h5
      cases h5
      obtain ⟨a, xs, rfl, g1, g2, _⟩ := vw.tuple n2.r.fh
      rw [textsOf_eq hy] at g2
      rw [g2.strs] at g1
      exact ⟨s, a, ys, rfl, rfl, .inr g1, hz, q _ F2 H2 nn (.inl ⟨_, rfl, .str _⟩)⟩
    · cases h5
end
end DL

namespace DL
open PySem L2 PyProof.Rows
/-! ### what stands among the built-ins -/
theorem bt_len : bootBuiltins "len" = some (.builtin "len") := by decide +kernel
theorem bt_abs : bootBuiltins "abs" = some (.builtin "abs") := by decide +kernel
theorem bt_min : bootBuiltins "min" = some (.builtin "min") := by decide +kernel
theorem bt_max : bootBuiltins "max" = some (.builtin "max") := by decide +kernel
theorem bt_sum : bootBuiltins "sum" = some (.builtin "sum") := by decide +kernel
theorem bt_sorted : bootBuiltins "sorted" = some (.builtin "sorted") := by decide +kernel
theorem bt_all : bootBuiltins "all" = some (.builtin "all") := by decide +kernel
theorem bt_any : bootBuiltins "any" = some (.builtin "any") := by decide +kernel
theorem bt_divmod : bootBuiltins "divmod" = some (.builtin "divmod") := by decide +kernel
theorem bt_int : bootBuiltins "int" = some (.type "int") := by decide +kernel
theorem bt_bool : bootBuiltins "bool" = some (.type "bool") := by decide +kernel
theorem bt_str : bootBuiltins "str" = some (.type "str") := by decide +kernel
theorem bt_tuple : bootBuiltins "tuple" = some (.type "tuple") := by decide +kernel
theorem bt_list : bootBuiltins "list" = some (.type "list") := by decide +kernel
theorem bt_dict : bootBuiltins "dict" = some (.type "dict") := by decide +kernel
/-! ### walks over lists or tuples -/
section
variable {X : Cx} {tg ex ey : Expr} {es : List Expr} {pos p : Pos} {x : Str}
def iSeq (K : PySem.W.Frag) (tl : TE) : TI := fun σ H R => tl σ H fun x H1 => ∃ a, x = .ref a ∧ (((∃ xs, SqL K H1 a xs) ∧ R (Itl K a) H1) ∨ ((∃ xs, SqT K H1 a xs) ∧ R (Itt K a) H1))
theorem pi_seq {l : Expr} {tl : TE} (hl : PE X l tl) : PI X tg l (iSeq X.K tl) := by
  refine ⟨fun pins s σ H R I h => ?_⟩
  refine thn (hl.run pins s σ H _ I h) fun v s1 ⟨x, H1, I1, r1, q1⟩ => ?_
  obtain ⟨a, e, q1⟩ := q1
  subst e
  cases r1
  rcases q1 with ⟨⟨xs, hq⟩, q⟩ | ⟨⟨xs, hq⟩, q⟩
  · obtain ⟨its, rv, p, hz⟩ := I1.list hq
    refine wpAny_pyIter_list p.isList ?_
    refine ⟨s1.heap.objs.size, [s1.heap.objs.size], _, _, H1, rfl, I1.kept (t' := s1.toks) fun b o e => Heap.get?_push_of_some _ e, turn_list a _, ⟨_, Heap.get?_push_size _ rfl, rfl, rfl⟩, fun b hb => ?_, q⟩
    have e : b = s1.heap.objs.size := by simpa using hb
    subst e
    exact I1.fpOk (Nat.le_refl _) (I1.hok.fresh (Nat.le_refl _))
  · obtain ⟨its, rv, p, hz⟩ := I1.tuple hq
    refine wpAny_pyIter_tuple (show s1.heap.IsTuple a its.toArray from p) ?_
    refine ⟨s1.heap.objs.size, [s1.heap.objs.size], _, _, H1, rfl, I1.kept (t' := s1.toks) fun b o e => Heap.get?_push_of_some _ e, turn_tuple a _, ⟨_, Heap.get?_push_size _ rfl, rfl, rfl⟩, fun b hb => ?_, q⟩
    have e : b = s1.heap.objs.size := by simpa using hb
    subst e
    exact I1.fpOk (Nat.le_refl _) (I1.hok.fresh (Nat.le_refl _))
def D.items : D → Rs (List D)
  | .list ds => .ok ds
  | .ro ds => .ok ds
  | .tuple ds => .ok ds
  | _ => .no
def mSeqA (m : M D) : M (List D) := fun e => (m e).bind fun p => p.1.items.bind fun ds => .ok (ds, p.2)
theorem pid_seq {m : M D} (h : PF X ex m) : PId X tg ex (mSeqA m) := PIimp (pi_seq h) fun σ H Q ⟨G, F, e, ds, e', r, hm, q⟩ => by
  obtain ⟨d, e1, h1, hm⟩ := bind_ok2 hm
  obtain ⟨ds', h2, hm⟩ := Rs.bind_eq hm
  cases hm
  have keyL : ∀ v F' H', Nx X.K G σ F H e F' H' e1 → (∃ a xs, v = V.ref a ∧ SqL X.K F' a xs ∧ DnA X.K F' xs ds) → ∃ a, v = V.ref a ∧ (((∃ xs, SqL X.K H' a xs) ∧ Q (Itl X.K a) H') ∨ ((∃ xs, SqT X.K H' a xs) ∧ Q (Itt X.K a) H')) := fun v F' H' n ⟨a, xs, hv, hl, hd⟩ => by
    refine ⟨a, hv, .inl ⟨⟨xs, Evl.ex_l n.r.fh hl⟩, q _ F' H' n ?_⟩⟩
    intro i F2 H2 x1 x2
    have hx := x1.trans x2
    refine ⟨fun d hi => ?_, fun hi => ?_⟩
    · obtain ⟨w, h1, h2⟩ := hd.get hi
      refine ⟨⟨xs, w, Evl.ex_l hx hl, h1⟩, fun x H3 y => ?_⟩
      obtain ⟨rfl, y⟩ := y
      have := y xs (Evl.ex_l hx hl)
      rw [h1] at this
      cases this
      exact ⟨F2, Go.refl x2, h2.mono x1⟩
    · exact ⟨xs, Evl.ex_l hx hl, by rw [hd.len]; exact List.getElem?_eq_none_iff.mp hi⟩
  cases d <;> first
    | (cases h2; done)
    | skip
  · cases h2
    refine ⟨G, F, e, _, _, r, h1, fun v F' H' n hn => keyL v F' H' n ?_⟩
    obtain ⟨a, xs, q1, q2, q3⟩ := hn.list_inv
    exact ⟨a, xs, q1, SqL.of q2, q3⟩
  · cases h2
    refine ⟨G, F, e, _, _, r, h1, fun v F' H' n hn => ?_⟩
    obtain ⟨a, xs, hv, hl, hd⟩ := hn.tuple_inv
    refine ⟨a, hv, .inr ⟨⟨xs, Evl.ex_t n.r.fh hl⟩, q _ F' H' n ?_⟩⟩
    intro i F2 H2 x1 x2
    have hx := x1.trans x2
    refine ⟨fun d hi => ?_, fun hi => ?_⟩
    · obtain ⟨w, h1, h2⟩ := hd.get hi
      refine ⟨⟨xs, w, Evl.ex_t hx hl, h1⟩, fun x H3 y => ?_⟩
      obtain ⟨rfl, y⟩ := y
      have := y xs (Evl.ex_t hx hl)
      rw [h1] at this
      cases this
      exact ⟨F2, Go.refl x2, h2.mono x1⟩
    · exact ⟨xs, Evl.ex_t hx hl, by rw [hd.len]; exact List.getElem?_eq_none_iff.mp hi⟩
  · cases h2
    exact ⟨G, F, e, _, _, r, h1, fun v F' H' n hn => keyL v F' H' n hn.ro_inv⟩
end
/-! ### defs by name -/
section
variable {P : Program} {w : World} {K : PySem.W.Frag} {mg : Str → Option Value} {base : Heap}
/-- the def x of the module keeps its promise S, by level k -/
structure DFn (P : Program) (w : World) (K : PySem.W.Frag) (mg : Str → Option Value) (base : Heap) (x : Str) (k : Nat) (S : Sf) : Prop where
  ok : ∃ f fd ps, FnD P w K mg base k f fd ps S ∧ mg x = some (.ref f) ∧ PySem.W.keepIn K (.ref f) = true ∧ Binds K fd ps []
theorem DFn.mono {x : Str} {j k : Nat} {S : Sf} (h : DFn P w K mg base x j S) (hk : j ≤ k) : DFn P w K mg base x k S := by
  obtain ⟨f, fd, ps, h1, h2⟩ := h.ok
  exact ⟨f, fd, ps, FnOk.mono h1 hk, h2⟩
theorem DFn.imp {x : Str} {k : Nat} {S S' : Sf} (h : DFn P w K mg base x k S) (hs : ∀ cs r, S' cs = .ok r → S cs = .ok r) : DFn P w K mg base x k S' := by
  obtain ⟨f, fd, ps, h1, h2⟩ := h.ok
  exact ⟨f, fd, ps, FnD.imp h1 hs, h2⟩
/-- where the def x stands -/
structure At1 (K : PySem.W.Frag) (mg : Str → Option Value) (x : Str) (st : Stmt) (ps : List Str) (f : Addr) (fd : FuncData) : Prop where
  fn : Fun K x x st f fd
  gl : mg x = some (.ref f)
  bi : Binds K fd ps []
theorem dfn_ok {x : Str} {st : Stmt} {f : Addr} {fd : FuncData} {N ps : List Str} {k : Nat} {S : Sf} (A : At1 K mg x st ps f fd) (Sc : FnScope N ps (defScope st)) (hN : ps.length ≤ N.length) (m : En → Out)
    (hb : ∀ (cdv : Value) (A : Around) (outer : List PySem.Env) (s : Shared) (H : Hp) (E : XK), Room k (A.deeper (envOfC x (defScope st) s.heap.objs.size f cdv)) → PDs (XX P w K mg base N x (defScope st) f cdv A outer s H E) (defBody st) m)
    (hS : ∀ cs c outs, S cs = .ok (c, outs) → cs.length = ps.length ∧ runD N.length m cs = .ok (c, outs)) : DFn P w K mg base x (k + 1) S :=
  ⟨f, fd, ps, fnD_ok A.fn Sc hN m hb hS, A.gl, A.fn.kp, A.bi⟩
end
section
variable {X : Cx} {ex : Expr} {es : List Expr} {pos p : Pos} {x : Str}
theorem pn_cd {j k : Nat} {S : Sf} {ma : M (List Ag)} (c : DFn X.prog X.w X.K X.mg X.base x j S) (hr : Room k X.A) (hjk : j ≤ k) (hg : Gl X x) (ha : PAg X (ex :: es) ma)
    (hdb : (x == ("__debug__" : Str)) = false := by decide) (he : starEach (ex :: es) X.env = (false, eval ex X.env) :: starEach es X.env := by rfl) (hpl : (backTo pos (starEach es X.env)).any (·.1) = false := by rfl) :
    PN X (.Call (.Name x p) (ex :: es) [] pos) (mCall S ma) := by
  obtain ⟨f, fd, ps, h1, h2, h3, h4⟩ := c.ok
  exact pn_call h1 (hr.mono hjk) hg h2 h3 h4 ha hdb he hpl
theorem hu1 {A : Around} {k : Nat} (hr : Room k A) : A.units + 1 < cLine := hu_of hr
theorem hu64 {A : Around} {k : Nat} (hr : Room k A) : A.units + 64 < cLine := hr.units
theorem hu65 {A : Around} {k : Nat} (hr : Room k A) : A.units + 65 < cLine := by have := hr.un; omega
end
/-! ### a law -/
open Classical in
/-- what is asked of a law: True of every list of at most n ints -/
noncomputable def lawS (n : Nat) : Sf := fun cs => if ∃ ns : List Int, ns.length ≤ n ∧ cs = [.f (.ro (ns.map .int))] then .ok (.f (.bool true), []) else .no
open Classical in
theorem lawS_ok {n : Nat} {cs : List Ce} {c : Ce} {outs : List Ce} (h : lawS n cs = .ok (c, outs)) : ∃ ns : List Int, ns.length ≤ n ∧ cs = [.f (.ro (ns.map .int))] ∧ c = .f (.bool true) ∧ outs = [] := by
  unfold lawS at h
  obtain ⟨⟨ns, h1, h2⟩, h⟩ := ite_ok h
  cases h
  exact ⟨ns, h1, h2, rfl, rfl⟩
open Classical in
theorem law_sp {n : Nat} (K : PySem.W.Frag) (H : Hp) (a : Addr) (ns : List Int) (hl : ns.length ≤ n) (hS : SqL K H a (ns.map V.int)) : spD K (lawS n) [.ref a] H (fun v _ => v = .bl true) fun _ _ _ => False := by
  refine ⟨H, [.f (.ro (ns.map .int))], .f (.bool true), [], [], Evl.Ex.refl _, .f (.ro hS (dnA_ints ns)) .nil, List.nodup_nil, ?_, fun v F' H' go nat _ => nat.fz.bool_inv⟩
  unfold lawS
  exact if_pos ⟨ns, hl, rfl⟩
end DL

namespace DL
open PySem L2 PyProof.Rows
section
variable {K : PySem.W.Frag} {F H : Hp}
/-! ### op= on frozen data -/
def iaddD : D → D → Rs Ce
  | .int i, .int j => .ok (.f (.int (i + j)))
  | .str a, .str b => if a.length + b.length ≤ sizeLine then .ok (.f (.str (a ++ b))) else .no
  | _, _ => .no
def rIAdd : R2 := fun x y H Q => rI0 (fun i j => .int (i + j)) x y H Q ∨ (∃ i j, x = .str i ∧ y = .str j ∧ i.length + j.length ≤ sizeLine ∧ Q (.str (i ++ j)) H)
theorem iop_addA {X : Cx} : OpR X (inplaceOp .Add) rIAdd := iop_add.or iop_add_str
theorem snd_iadd : Snd2 K rIAdd iaddD := fun F H x y dx dy c Q fh hx hy hg q => by
  cases dx <;> cases dy <;> first
    | (cases hg; done)
    | skip
  · rename_i i j
    cases hg
    rw [hx.int, hy.int]
    exact .inl ⟨i, j, rfl, rfl, ret1 fh (.int _) rfl q⟩
  · rename_i i j
    obtain ⟨h1, hg⟩ := ite_ok hg
    cases hg
    rw [hx.str, hy.str]
    exact .inr ⟨i, j, rfl, rfl, h1, ret1 fh (.str _) rfl q⟩
noncomputable def imulD : D → D → Rs Ce
  | .int i, .int j => if MulOk i j then .ok (.f (.int (i * j))) else .no
  | _, _ => .no
def rIMul : R2 := fun x y H Q => rI CMul (fun i j => .int (i * j)) x y H Q ∨ rI CMulW (fun i j => .int (i * j)) x y H Q
theorem iop_mulA {X : Cx} : OpR X (inplaceOp .Mult) rIMul := iop_mul.or (opI fun _ _ _ _ _ _ _ hc q => imul_int q hc.ok)
theorem snd_imul : Snd2 K rIMul imulD := fun F H x y dx dy c Q fh hx hy hg q => by
  cases dx <;> cases dy <;> first
    | (cases hg; done)
    | skip
  rename_i i j
  obtain ⟨h1, hg⟩ := ite_ok hg
  cases hg
  rw [hx.int, hy.int]
  rcases mulOk_r h1 with h | h
  · exact .inl ⟨i, j, rfl, rfl, h, ret1 fh (.int _) rfl q⟩
  · exact .inr ⟨i, j, rfl, rfl, h, ret1 fh (.int _) rfl q⟩
noncomputable def ifdivD : D → D → Rs Ce
  | .int i, .int j => if DivOk j then .ok (.f (.int (i / j))) else .no
  | _, _ => .no
theorem snd_ifdiv : Snd2 K (rI CDivW fun i j => .int (i / j)) ifdivD := fun F H x y dx dy c Q fh hx hy hg q => by
  cases dx <;> cases dy <;> first
    | (cases hg; done)
    | skip
  rename_i i j
  obtain ⟨h, hg⟩ := ite_ok hg
  cases hg
  rw [hx.int, hy.int]
  exact ⟨i, j, rfl, rfl, wide_div h.1 h.2 (by decide) (by decide), ret1 fh (.int _) rfl q⟩
end
end DL

namespace DL
open PySem L2 PyProof.Rows
/-! ### reckoning a meaning: simp rules -/
@[simp] theorem mN_r (m : M D) (e : En) : mN m e = (m e).bind fun p => .ok (.f p.1, p.2) := rfl
@[simp] theorem mZ_r (m : M Ce) (e : En) : mZ m e = (m e).bind fun p => .ok (p.1.d, p.2) := rfl
@[simp] theorem mH_r (m : M Ce) (e : En) : mH m e = (m e).bind fun p => .ok (.v p.1, p.2) := rfl
@[simp] theorem mVar_r (i : Nat) (e : En) : mVar i e = match e[i]? with
  | some (some (.f d)) => .ok (d, e)
  | _ => .no := rfl
@[simp] theorem mSl_r (i : Nat) (e : En) : mSl i e = match e[i]? with
  | some (some _) => .ok (.s i, e)
  | _ => .no := rfl
@[simp] theorem get_v (c : Ce) (e : En) : (Hd.v c).get e = .ok c.d := rfl
@[simp] theorem get_s (i : Nat) (e : En) : (Hd.s i).get e = match e[i]? with
  | some (some c) => .ok c.d
  | _ => .no := rfl
@[simp] theorem ce_d_f (d : D) : (Ce.f d).d = d := rfl
@[simp] theorem ce_d_l (p : Bool) (ds : List D) : (Ce.l p ds).d = .list ds := rfl
@[simp] theorem ce_d_k (p t : Bool) (ks vs : List D) : (Ce.k p t ks vs).d = .dict t ks vs := rfl
@[simp] theorem m2_r (g : D → D → Rs Ce) (ma mb : M Hd) (e : En) : m2 g ma mb e = (ma e).bind fun p => (mb p.2).bind fun q => (p.1.get q.2).bind fun x => (q.1.get q.2).bind fun y => (g x y).bind fun c => .ok (c, q.2) := rfl
@[simp] theorem m1_r (g : D → Rs Ce) (ma : M Hd) (e : En) : m1 g ma e = (ma e).bind fun p => (p.1.get p.2).bind fun x => (g x).bind fun c => .ok (c, p.2) := rfl
@[simp] theorem mL_r (g : List D → Rs Ce) (ma : M (List Hd)) (e : En) : mL g ma e = (ma e).bind fun p => (gets p.1 p.2).bind fun xs => (g xs).bind fun c => .ok (c, p.2) := rfl
@[simp] theorem gets_nil (e : En) : gets [] e = .ok [] := rfl
@[simp] theorem gets_cons (h : Hd) (hs : List Hd) (e : En) : gets (h :: hs) e = (h.get e).bind fun d => (gets hs e).bind fun ds => .ok (d :: ds) := rfl
@[simp] theorem aNil_r {α : Type} (e : En) : (aNil : M (List α)) e = .ok ([], e) := rfl
@[simp] theorem aCons_r {α : Type} (m : M α) (ms : M (List α)) (e : En) : aCons m ms e = (m e).bind fun p => (ms p.2).bind fun q => .ok (p.1 :: q.1, q.2) := rfl
@[simp] theorem mTup_r (ma : M (List D)) (e : En) : mTup ma e = (ma e).bind fun p => if p.1.length ≤ sizeLine then .ok (.tuple p.1, p.2) else .no := rfl
@[simp] theorem mLst_r (ma : M (List D)) (e : En) : mLst ma e = (ma e).bind fun p => if p.1.length ≤ sizeLine then .ok (.l false p.1, p.2) else .no := rfl
@[simp] theorem mIf_r {α : Type} (t : M Bool) (a b : M α) (e : En) : mIf t a b e = (t e).bind fun p => if p.1 = true then a p.2 else b p.2 := rfl
@[simp] theorem mAnd_r (a b : M Bool) (e : En) : mAnd a b e = (a e).bind fun p => if p.1 = true then b p.2 else .ok (false, p.2) := rfl
@[simp] theorem mOr_r (a b : M Bool) (e : En) : mOr a b e = (a e).bind fun p => if p.1 = true then .ok (true, p.2) else b p.2 := rfl
@[simp] theorem mNot_r (a : M Bool) (e : En) : mNot a e = (a e).bind fun p => .ok (!p.1, p.2) := rfl
@[simp] theorem mBool_r (m : M Ce) (e : En) : mBool m e = (m e).bind fun p => match p.1 with
  | .f (.bool b) => .ok (b, p.2)
  | _ => .no := rfl
@[simp] theorem mAndV_r (a b : M Ce) (e : En) : mAndV a b e = (a e).bind fun p => match p.1 with
  | .f (.bool true) => b p.2
  | .f (.bool false) => .ok (.f (.bool false), p.2)
  | _ => .no := rfl
@[simp] theorem mOrV_r (a b : M Ce) (e : En) : mOrV a b e = (a e).bind fun p => match p.1 with
  | .f (.bool true) => .ok (.f (.bool true), p.2)
  | .f (.bool false) => b p.2
  | _ => .no := rfl
@[simp] theorem mNotV_r (a : M Ce) (e : En) : mNotV a e = (a e).bind fun p => match p.1 with
  | .f (.bool b) => .ok (.bool (!b), p.2)
  | _ => .no := rfl
@[simp] theorem mTru_r (m : M Hd) (e : En) : mTru m e = (m e).bind fun p => (p.1.get p.2).bind fun d => d.truth.bind fun b => .ok (b, p.2) := rfl
@[simp] theorem mChain_r (g g' : D → D → Rs Ce) (ma mb mc : M Hd) (e : En) : mChain g g' ma mb mc e = (ma e).bind fun p => (mb p.2).bind fun q => (p.1.get q.2).bind fun x => (q.1.get q.2).bind fun y => (g x y).bind fun c => match c with
  | .f (.bool true) => (mc q.2).bind fun z => (q.1.get z.2).bind fun y' => (z.1.get z.2).bind fun w => (g' y' w).bind fun c' => .ok (c', z.2)
  | .f (.bool false) => .ok (.f (.bool false), q.2)
  | _ => .no := rfl
@[simp] theorem mIs_r (T : String) (m : M Hd) (e : En) : mIs T m e = (m e).bind fun p => (p.1.get p.2).bind fun d => .ok (.bool (isT T d), p.2) := rfl
@[simp] theorem mSeqA_r (m : M D) (e : En) : mSeqA m e = (m e).bind fun p => p.1.items.bind fun ds => .ok (ds, p.2) := rfl
@[simp] theorem items_l (ds : List D) : (D.list ds).items = .ok ds := rfl
@[simp] theorem items_r (ds : List D) : (D.ro ds).items = .ok ds := rfl
@[simp] theorem items_t (ds : List D) : (D.tuple ds).items = .ok ds := rfl
@[simp] theorem mRng1_r (ma : M (List D)) (e : En) : mRng1 ma e = (ma e).bind fun p => match p.1 with
  | [.int n] => if -(2 ^ 62) ≤ n ∧ n < 2 ^ 62 then .ok (rgD 0 n.toNat, p.2) else .no
  | _ => .no := rfl
@[simp] theorem mRng2_r (ma : M (List D)) (e : En) : mRng2 ma e = (ma e).bind fun p => match p.1 with
  | [.int lo, .int n] => if -(2 ^ 62) ≤ lo ∧ lo < 2 ^ 62 ∧ -(2 ^ 62) ≤ n ∧ n < 2 ^ 62 then .ok (rgD lo (n - lo).toNat, p.2) else .no
  | _ => .no := rfl
@[simp] theorem mJoin_r (ma mb : M Hd) (e : En) : mJoin ma mb e = (ma e).bind fun p => (p.1.get p.2).bind fun x => if isT "str" x = true then (mb p.2).bind fun q => (q.1.get q.2).bind fun y => (joinD x y).bind fun c => .ok (c, q.2) else .no := rfl
@[simp] theorem mDNew_r (t : Bool) (e : En) : mDNew t e = .ok (.k false t [] [], e) := rfl
theorem mComp_r (src : M (List D)) (t : Tg) (vs : List Nat) (c : M Bool) (m : M D) (e : En) : mComp src t vs c m e = (src e).bind fun p => (cLoop t vs c m p.1 [] p.2).bind fun q => .ok (.l false q.1, restE p.2 q.2 vs) := rfl
@[simp] theorem mYes_r (e : En) : mYes e = .ok (true, e) := rfl
@[simp] theorem aD_r (m : M D) (e : En) : aD m e = (m e).bind fun p => .ok (.d p.1, p.2) := rfl
@[simp] theorem aS_r (i : Nat) (e : En) : aS i e = match e[i]? with
  | some (some c) => if c.ow = true then .ok (.s i, e) else .no
  | _ => .no := rfl
@[simp] theorem agCells_nil (e : En) : agCells [] e = .ok [] := rfl
@[simp] theorem agCells_d (d : D) (as : List Ag) (e : En) : agCells (.d d :: as) e = (agCells as e).bind fun cs => .ok (.f d :: cs) := rfl
@[simp] theorem agCells_s (i : Nat) (as : List Ag) (e : En) : agCells (.s i :: as) e = match e[i]? with
    | some (some c) => (agCells as e).bind fun cs => .ok (c.lent :: cs)
    | _ => .no := rfl
@[simp] theorem agSlots_nil : agSlots [] = [] := rfl
@[simp] theorem agSlots_d (d : D) (as : List Ag) : agSlots (.d d :: as) = agSlots as := rfl
@[simp] theorem agSlots_s (i : Nat) (as : List Ag) : agSlots (.s i :: as) = i :: agSlots as := rfl
@[simp] theorem putBack_nil (e : En) : putBack [] [] e = .ok e := rfl
@[simp] theorem putBack_l (i : Nat) (is : List Nat) (p : Bool) (ds : List D) (cs : List Ce) (e : En) : putBack (i :: is) (.l p ds :: cs) e = match e[i]? with
    | some (some (.l p' _)) => putBack is cs (e.set i (some (.l p' ds)))
    | _ => .no := by
  show (match e[i]?, Ce.l p ds with
    | some (some (.l p _)), .l _ ds => putBack is cs (e.set i (some (.l p ds)))
    | some (some (.k p t _ _)), .k _ t' ks vs => if t = t' then putBack is cs (e.set i (some (.k p t' ks vs))) else .no
    | _, _ => .no) = _
  cases e[i]? with
  | none => rfl
  | some o => cases o with
    | none => rfl
    | some c => cases c <;> rfl
@[simp] theorem mCall_r (S : Sf) (ma : M (List Ag)) (e : En) : mCall S ma e = (ma e).bind fun p => (agCells p.1 p.2).bind fun cs => if (agSlots p.1).Nodup then (S cs).bind fun r => (putBack (agSlots p.1) r.2 p.2).bind fun e' => .ok (r.1, e') else .no := rfl
@[simp] theorem lent_f (d : D) : (Ce.f d).lent = .f d := rfl
@[simp] theorem lent_l (p : Bool) (ds : List D) : (Ce.l p ds).lent = .l true ds := rfl
@[simp] theorem ow_f (d : D) : (Ce.f d).ow = false := rfl
@[simp] theorem ow_l (p : Bool) (ds : List D) : (Ce.l p ds).ow = true := rfl
@[simp] theorem ow_k (p t : Bool) (ks vs : List D) : (Ce.k p t ks vs).ow = true := rfl
@[simp] theorem io_f (d : D) : (Ce.f d).io = false := rfl
@[simp] theorem io_l (p : Bool) (ds : List D) : (Ce.l p ds).io = p := rfl
@[simp] theorem io_k (p t : Bool) (ks vs : List D) : (Ce.k p t ks vs).io = p := rfl
@[simp] theorem ioAt_nil (i : Nat) : ioAt [] i = false := rfl
@[simp] theorem ioAt_z (c : Ce) (e : En) : ioAt (some c :: e) 0 = c.io := rfl
@[simp] theorem ioAt_n (e : En) : ioAt (none :: e) 0 = false := rfl
@[simp] theorem ioAt_m (a : Option D) (e : En) : ioAt (a.map Ce.f :: e) 0 = false := by cases a <;> rfl
@[simp] theorem ioAt_s (o : Option Ce) (e : En) (i : Nat) : ioAt (o :: e) (i + 1) = ioAt e i := rfl
@[simp] theorem frozenAt_nil (i : Nat) : frozenAt [] i = true := rfl
@[simp] theorem frozenAt_z (c : Ce) (e : En) : frozenAt (some c :: e) 0 = !c.ow := rfl
@[simp] theorem frozenAt_n (e : En) : frozenAt (none :: e) 0 = true := rfl
@[simp] theorem frozenAt_m (a : Option D) (e : En) : frozenAt (a.map Ce.f :: e) 0 = true := by cases a <;> rfl
@[simp] theorem frozenAt_s (o : Option Ce) (e : En) (i : Nat) : frozenAt (o :: e) (i + 1) = frozenAt e i := rfl
theorem ioAt_r (e : En) (i : Nat) : ioAt e i = match e[i]? with
  | some (some c) => c.io
  | _ => false := rfl
theorem frozenAt_r (e : En) (i : Nat) : frozenAt e i = match e[i]? with
  | some (some c) => !c.ow
  | _ => true := rfl
/-! statements -/
@[simp] theorem sAsg_r (i : Nat) (m : M Ce) (e : En) : sAsg i m e = onR (m e) fun c e' => if ioAt e' i = true then .no else .nx (e'.set i (some c)) := rfl
@[simp] theorem sAsgF_r (i : Nat) (m : M D) (e : En) : sAsgF i m e = onR (m e) fun d e' => if ioAt e' i = true then .no else .nx (e'.set i (some (.f d))) := rfl
@[simp] theorem sSeq_r (a b : En → Out) (e : En) : sSeq a b e = match a e with
  | .nx e' => b e'
  | o => o := rfl
@[simp] theorem sNext_r (e : En) : sNext e = .nx e := rfl
@[simp] theorem sBreak_r (e : En) : sBreak e = .bk e := rfl
@[simp] theorem sCont_r (e : En) : sCont e = .ct e := rfl
@[simp] theorem sFrz_r (i : Nat) (b : En → Out) (e : En) : sFrz i b e = match e[i]? with
  | some (some c) => if c.io = true then .no else b (e.set i (some (.f c.d)))
  | _ => .no := rfl
@[simp] theorem sDrop_r {α : Type} (m : M α) (e : En) : sDrop m e = onR (m e) fun _ e' => .nx e' := rfl
@[simp] theorem sRet_r (m : M Ce) (e : En) : sRet m e = onR (m e) fun c e' => .rt c e' := rfl
@[simp] theorem sRetN_r (e : En) : sRetN e = .rt (.f .none) e := rfl
@[simp] theorem sRetS_r (i : Nat) (e : En) : sRetS i e = match e[i]? with
  | some (some c) => if c.io = true then .no else .rt c e
  | _ => .no := rfl
@[simp] theorem sIf_r (t : M Bool) (a b : En → Out) (e : En) : sIf t a b e = onR (t e) fun c e' => if c = true then a e' else b e' := rfl
@[simp] theorem sApp_r (i : Nat) (m : M D) (e : En) : sApp i m e = match e[i]? with
  | some (some (.l _ _)) => onR (m e) fun d e' => (match e'[i]? with
    | some (some (.l p ds)) => if ds.length < 16000000 then .nx (e'.set i (some (.l p (ds ++ [d])))) else .no
    | _ => .no)
  | _ => .no := rfl
@[simp] theorem sTgt_r (t : Tg) (m : M D) (e : En) : sTgt t m e = onR (m e) fun d e' => match t d e' with
  | .ok e2 => .nx e2
  | _ => .no := rfl
@[simp] theorem tgN_r (i : Nat) (d : D) (e : En) : tgN i d e = if ioAt e i = true then .no else .ok (e.set i (some (.f d))) := rfl
@[simp] theorem tgT_r (ts : List Tg) (ds : List D) (e : En) : tgT ts (.tuple ds) e = tgAll ts ds e := rfl
@[simp] theorem tgAll_nil (e : En) : tgAll [] [] e = .ok e := rfl
@[simp] theorem tgAll_cons (t : Tg) (ts : List Tg) (d : D) (ds : List D) (e : En) : tgAll (t :: ts) (d :: ds) e = (t d e).bind (tgAll ts ds) := rfl
@[simp] theorem sParN_r (i j : Nat) (ma mb : M Ce) (e : En) : sParN i j ma mb e = onR (ma e) fun c1 e1 => onR (mb e1) fun c2 e2 => if (ioAt e2 i || ioAt e2 j) = true then .no else .nx ((e2.set i (some c1)).set j (some c2)) := rfl
@[simp] theorem sAug_r (g : D → D → Rs Ce) (i : Nat) (m : M D) (e : En) : sAug g i m e = match e[i]? with
  | some (some (.f dx)) => onR (m e) fun d e' => (match g dx d with
    | .ok (.f dz) => .nx (e'.set i (some (.f dz)))
    | _ => .no)
  | _ => .no := rfl
@[simp] theorem sFor_r (m : M (List D)) (t : Tg) (b : En → Out) (e : En) : sFor m t b e = onR (m e) fun ds e' => loopL t b ds e' := rfl
@[simp] theorem loopL_nil (t : Tg) (b : En → Out) (e : En) : loopL t b [] e = .nx e := rfl
theorem loopL_cons (t : Tg) (b : En → Out) (d : D) (ds : List D) (e : En) : loopL t b (d :: ds) e = match t d e with
    | .ok e1 => (match b e1 with
      | .nx e2 => loopL t b ds e2
      | .ct e2 => loopL t b ds e2
      | .bk e2 => .nx e2
      | o => o)
    | _ => .no := rfl
@[simp] theorem sDPut_r (i : Nat) (mk mv : M D) (e : En) : sDPut i mk mv e = onR (mv e) fun v e1 => match e1[i]? with
  | some (some (.k _ _ _ _)) => onR (mk e1) fun k e2 => (match e2[i]? with
    | some (some (.k p t ks vs)) => if (keyOk t k = true ∧ ks.length < 16000000) then .nx (e2.set i (some (.k p t (dPutK ks k) (dPutW ks vs k v)))) else .no
    | _ => .no)
  | _ => .no := rfl
@[simp] theorem sLPut_r (i : Nat) (mj mv : M D) (e : En) : sLPut i mj mv e = onR (mv e) fun v e1 => match e1[i]? with
  | some (some (.l _ _)) => onR (mj e1) fun k e2 => (match e2[i]?, k with
    | some (some (.l p ds)), .int j => (match ixN ds.length j with
      | some jj => .nx (e2.set i (some (.l p (ds.set jj v))))
      | none => .no)
    | _, _ => .no)
  | _ => .no := rfl
theorem runD_r (n : Nat) (m : En → Out) (cs : List Ce) : runD n m cs = match m (startE n cs) with
  | .rt c e => (outsAt (owIx 0 cs) e).bind fun os => .ok (c, os)
  | .nx e => (outsAt (owIx 0 cs) e).bind fun os => .ok (.f .none, os)
  | .ex n ds => .ex n ds
  | _ => .no := rfl
@[simp] theorem owIx_nil (n : Nat) : owIx n [] = [] := rfl
@[simp] theorem owIx_f (n : Nat) (d : D) (cs : List Ce) : owIx n (.f d :: cs) = owIx (n + 1) cs := rfl
@[simp] theorem owIx_l (n : Nat) (p : Bool) (ds : List D) (cs : List Ce) : owIx n (.l p ds :: cs) = n :: owIx (n + 1) cs := rfl
@[simp] theorem outsAt_nil (e : En) : outsAt [] e = .ok [] := rfl
@[simp] theorem outsAt_cons (i : Nat) (is : List Nat) (e : En) : outsAt (i :: is) e = match e[i]? with
    | some (some c) => if c.io = true then (outsAt is e).bind fun cs => .ok (c :: cs) else .no
    | _ => .no := rfl
/-! operations -/
@[simp] theorem addD_i (i j : Int) : addD (.int i) (.int j) = .ok (.f (.int (i + j))) := rfl
@[simp] theorem subD_i (i j : Int) : subD (.int i) (.int j) = .ok (.f (.int (i - j))) := rfl
theorem mulD_i {i j : Int} (h : MulOk i j) : mulD (.int i) (.int j) = .ok (.f (.int (i * j))) := if_pos h
theorem imulD_i {i j : Int} (h : MulOk i j) : imulD (.int i) (.int j) = .ok (.f (.int (i * j))) := if_pos h
theorem fdivD_i {i j : Int} (h : DivOk j) : fdivD (.int i) (.int j) = .ok (.f (.int (i / j))) := if_pos h
theorem ifdivD_i {i j : Int} (h : DivOk j) : ifdivD (.int i) (.int j) = .ok (.f (.int (i / j))) := if_pos h
theorem modD_i {i j : Int} (h : 0 < j) : modD (.int i) (.int j) = .ok (.f (.int (i % j))) := if_pos h
@[simp] theorem iaddD_i (i j : Int) : iaddD (.int i) (.int j) = .ok (.f (.int (i + j))) := rfl
@[simp] theorem negD_i (i : Int) : negD (.int i) = .ok (.f (.int (-i))) := rfl
@[simp] theorem ltD_i (i j : Int) : ltD (.int i) (.int j) = .ok (.f (.bool (decide (i < j)))) := rfl
@[simp] theorem leD_i (i j : Int) : leD (.int i) (.int j) = .ok (.f (.bool (decide (i ≤ j)))) := rfl
@[simp] theorem gtD_i (i j : Int) : gtD (.int i) (.int j) = .ok (.f (.bool (decide (j < i)))) := rfl
@[simp] theorem geD_i (i j : Int) : geD (.int i) (.int j) = .ok (.f (.bool (decide (j ≤ i)))) := rfl
@[simp] theorem eqD_i (i j : Int) : eqD (.int i) (.int j) = .ok (.f (.bool (i == j))) := by simp [eqD, D.sc, D.eqb]
@[simp] theorem neD_i (i j : Int) : neD (.int i) (.int j) = .ok (.f (.bool (!(i == j)))) := by simp [neD, D.sc, D.eqb]
@[simp] theorem eqD_s (i j : Str) : eqD (.str i) (.str j) = .ok (.f (.bool (i == j))) := by simp [eqD, D.sc, D.eqb]
@[simp] theorem neD_s (i j : Str) : neD (.str i) (.str j) = .ok (.f (.bool (!(i == j)))) := by simp [neD, D.sc, D.eqb]
@[simp] theorem isD_n (x : D) : isD x .none = .ok (.f (.bool x.isN)) := rfl
@[simp] theorem isD_b (x : D) (b : Bool) : isD x (.bool b) = .ok (.f (.bool (x.isB b))) := rfl
@[simp] theorem isntD_n (x : D) : isntD x .none = .ok (.f (.bool (!x.isN))) := rfl
@[simp] theorem intD_i (i : Int) : intD [.int i] = .ok (.f (.int i)) := rfl
@[simp] theorem absD_i (i : Int) : absD [.int i] = .ok (.f (.int (if i < 0 then -i else i))) := rfl
@[simp] theorem gcdD_i (a b : Int) : gcdD [.int a, .int b] = .ok (.f (.int ((Nat.gcd a.natAbs b.natAbs : Nat) : Int))) := rfl
theorem lcmD_i {a b : Int} (h : a.natAbs < 2 ^ 64 ∧ b.natAbs < 2 ^ 64) : lcmD [.int a, .int b] = .ok (.f (.int ((Nat.lcm a.natAbs b.natAbs : Nat) : Int))) := if_pos h
@[simp] theorem lenD_l (ds : List D) : lenD [.list ds] = .ok (.f (.int ds.length)) := rfl
@[simp] theorem lenD_ro (ds : List D) : lenD [.ro ds] = .ok (.f (.int ds.length)) := rfl
@[simp] theorem lenD_t (ds : List D) : lenD [.tuple ds] = .ok (.f (.int ds.length)) := rfl
@[simp] theorem lenD_d (t : Bool) (ks vs : List D) : lenD [.dict t ks vs] = .ok (.f (.int ks.length)) := rfl
@[simp] theorem tupleD_l (ds : List D) : tupleD [.list ds] = .ok (.f (.tuple ds)) := rfl
@[simp] theorem tupleD_t (ds : List D) : tupleD [.tuple ds] = .ok (.f (.tuple ds)) := rfl
@[simp] theorem listD_l (ds : List D) : listD [.list ds] = .ok (.l false ds) := rfl
@[simp] theorem listD_t (ds : List D) : listD [.tuple ds] = .ok (.l false ds) := rfl
theorem ixD_t (ds : List D) (i : Int) : ixD (.tuple ds) (.int i) = match atI ds i with
    | some d => .ok (.f d)
    | _ => .no := rfl
theorem ixD_l (ds : List D) (i : Int) : ixD (.list ds) (.int i) = match atI ds i with
    | some d => .ok (.f d)
    | _ => .no := rfl
theorem ixD_ro (ds : List D) (i : Int) : ixD (.ro ds) (.int i) = match atI ds i with
    | some d => .ok (.f d)
    | _ => .no := rfl
@[simp] theorem ixD_t0 (d : D) (ds : List D) : ixD (.tuple (d :: ds)) (.int 0) = .ok (.f d) := by
  rw [ixD_t, show atI (d :: ds) 0 = some d from atI_nat (j := 0) rfl]
@[simp] theorem ixD_t1 (d d1 : D) (ds : List D) : ixD (.tuple (d :: d1 :: ds)) (.int 1) = .ok (.f d1) := by
  rw [ixD_t, show atI (d :: d1 :: ds) 1 = some d1 from atI_nat (j := 1) rfl]
@[simp] theorem ixD_t2 (d d1 d2 : D) (ds : List D) : ixD (.tuple (d :: d1 :: d2 :: ds)) (.int 2) = .ok (.f d2) := by
  rw [ixD_t, show atI (d :: d1 :: d2 :: ds) 2 = some d2 from atI_nat (j := 2) rfl]
@[simp] theorem ixD_t3 (d d1 d2 d3 : D) (ds : List D) : ixD (.tuple (d :: d1 :: d2 :: d3 :: ds)) (.int 3) = .ok (.f d3) := by
  rw [ixD_t, show atI (d :: d1 :: d2 :: d3 :: ds) 3 = some d3 from atI_nat (j := 3) rfl]
@[simp] theorem ixD_t4 (d d1 d2 d3 d4 : D) (ds : List D) : ixD (.tuple (d :: d1 :: d2 :: d3 :: d4 :: ds)) (.int 4) = .ok (.f d4) := by
  rw [ixD_t, show atI (d :: d1 :: d2 :: d3 :: d4 :: ds) 4 = some d4 from atI_nat (j := 4) rfl]
@[simp] theorem ixD_l0 (d : D) (ds : List D) : ixD (.list (d :: ds)) (.int 0) = .ok (.f d) := by
  rw [ixD_l, show atI (d :: ds) 0 = some d from atI_nat (j := 0) rfl]
@[simp] theorem ixD_l1 (d d1 : D) (ds : List D) : ixD (.list (d :: d1 :: ds)) (.int 1) = .ok (.f d1) := by
  rw [ixD_l, show atI (d :: d1 :: ds) 1 = some d1 from atI_nat (j := 1) rfl]
theorem ixD_tn {ds : List D} {n : Nat} {d : D} (h : ds[n]? = some d) : ixD (.tuple ds) (.int (n : Int)) = .ok (.f d) := by rw [ixD_t, atI_nat h]
theorem ixD_ln {ds : List D} {n : Nat} {d : D} (h : ds[n]? = some d) : ixD (.list ds) (.int (n : Int)) = .ok (.f d) := by rw [ixD_l, atI_nat h]
theorem ixD_rn {ds : List D} {n : Nat} {d : D} (h : ds[n]? = some d) : ixD (.ro ds) (.int (n : Int)) = .ok (.f d) := by rw [ixD_ro, atI_nat h]
@[simp] theorem ixN_0 (n : Nat) : ixN (n + 1) 0 = some 0 := by simp [ixN]
@[simp] theorem ixN_1 (n : Nat) : ixN (n + 1 + 1) 1 = some 1 := by
  unfold ixN
  rw [if_pos (by decide), if_pos (by omega)]
  rfl
@[simp] theorem sizeLine_ge (n : Nat) (h : n ≤ 1000 := by decide) : n ≤ sizeLine := Nat.le_trans h (by rw [sizeLine_eq]; decide)
@[simp] theorem isN_none : D.none.isN = true := rfl
@[simp] theorem isN_b (b : Bool) : (D.bool b).isN = false := rfl
@[simp] theorem isN_i (i : Int) : (D.int i).isN = false := rfl
@[simp] theorem isN_s (s : Str) : (D.str s).isN = false := rfl
@[simp] theorem isN_t (ds : List D) : (D.tuple ds).isN = false := rfl
@[simp] theorem isN_l (ds : List D) : (D.list ds).isN = false := rfl
@[simp] theorem isB_n (b : Bool) : D.none.isB b = false := rfl
@[simp] theorem isB_b (b c : Bool) : (D.bool c).isB b = (c == b) := rfl
@[simp] theorem isB_i (b : Bool) (i : Int) : (D.int i).isB b = false := rfl
@[simp] theorem isB_s (b : Bool) (s : Str) : (D.str s).isB b = false := rfl
@[simp] theorem isB_t (b : Bool) (ds : List D) : (D.tuple ds).isB b = false := rfl
@[simp] theorem truth_b (b : Bool) : (D.bool b).truth = .ok b := rfl
@[simp] theorem truth_n : D.none.truth = .ok false := rfl
@[simp] theorem truth_i (i : Int) : (D.int i).truth = .ok (i != 0) := rfl
@[simp] theorem truth_l (ds : List D) : (D.list ds).truth = .ok (!ds.isEmpty) := rfl
@[simp] theorem truth_t (ds : List D) : (D.tuple ds).truth = .ok (!ds.isEmpty) := rfl
theorem mulOk_l {i j : Int} (h : -(2 ^ 64) < i) (h2 : i < 2 ^ 64) : MulOk i j := .inl ⟨h, h2⟩
theorem mulOk_r' {i j : Int} (h : -(2 ^ 64) < j) (h2 : j < 2 ^ 64) : MulOk i j := .inr (.inl ⟨h, h2⟩)
theorem pow_mono2 {a b : Nat} (h : a ≤ b) : 2 ^ a ≤ 2 ^ b := Nat.pow_le_pow_right (by decide) h
theorem divOk_of {j : Int} {n : Nat} (h : 0 < j) (h2 : j < 2 ^ n) (hn : n ≤ 8000) : DivOk j := by
  refine ⟨h, ?_⟩
  have h3 : j.natAbs < 2 ^ n := by
    have h4 : ((j.natAbs : Nat) : Int) = j := Int.natAbs_of_nonneg (by omega)
    have h5 : ((j.natAbs : Nat) : Int) < ((2 ^ n : Nat) : Int) := by
      rw [h4, Int.natCast_pow]
      exact h2
    exact Int.ofNat_lt.mp h5
  exact Nat.lt_of_lt_of_le h3 (pow_mono2 hn)
end DL

namespace DL
open PySem L2 PyProof.Rows
/-! ### promises by a domain -/
open Classical in
/-- f's answers on the arguments enc x, for the x that P lets in -/
noncomputable def spec {α : Type} (Pr : α → Prop) (enc : α → List Ce) (res : α → Ce × List Ce) : Sf := fun cs => if h : ∃ x, Pr x ∧ cs = enc x then .ok (res h.choose) else .no
open Classical in
theorem spec_inv {α : Type} {Pr : α → Prop} {enc : α → List Ce} {res : α → Ce × List Ce} {cs : List Ce} {r : Ce × List Ce} (h : spec Pr enc res cs = .ok r) : ∃ x, Pr x ∧ cs = enc x ∧ r = res x := by
  unfold spec at h
  by_cases hx : ∃ x, Pr x ∧ cs = enc x
  · rw [dif_pos hx] at h
    exact ⟨hx.choose, hx.choose_spec.1, hx.choose_spec.2, (Rs.ok.inj h).symm⟩
  · rw [dif_neg hx] at h
    cases h
open Classical in
theorem spec_ok {α : Type} {Pr : α → Prop} {enc : α → List Ce} {res : α → Ce × List Ce} {x : α} {cs : List Ce} (he : cs = enc x) (hx : Pr x) (inj : ∀ y, Pr y → enc x = enc y → res y = res x) : spec Pr enc res cs = .ok (res x) := by
  subst he
  unfold spec
  have h : ∃ y, Pr y ∧ enc x = enc y := ⟨x, hx, rfl⟩
  rw [dif_pos h]
  rw [inj h.choose h.choose_spec.1 h.choose_spec.2]
open Classical in
/-- f's answers are what its body m gives, on the arguments of Dm -/
noncomputable def specR (Dm : List Ce → Prop) (n : Nat) (m : En → Out) : Sf := fun cs => if Dm cs then runD n m cs else .no
open Classical in
theorem specR_inv {Dm : List Ce → Prop} {n : Nat} {m : En → Out} {cs : List Ce} {r : Ce × List Ce} (h : specR Dm n m cs = .ok r) : Dm cs ∧ runD n m cs = .ok r := ite_ok h
open Classical in
theorem specR_ok {Dm : List Ce → Prop} {n : Nat} {m : En → Out} {cs : List Ce} (h : Dm cs) : specR Dm n m cs = runD n m cs := if_pos h
theorem specR_sem {Dm : List Ce → Prop} {n l : Nat} {m : En → Out} (hl : ∀ cs, Dm cs → cs.length = l) : ∀ cs c outs, specR Dm n m cs = .ok (c, outs) → cs.length = l ∧ runD n m cs = .ok (c, outs) := fun cs c outs h =>
  ⟨hl cs (specR_inv h).1, (specR_inv h).2⟩
theorem map_int_inj {a b : List Int} (h : a.map D.int = b.map D.int) : a = b := by
  have : Function.Injective D.int := fun x y e => by cases e; rfl
  exact (List.map_inj_right (fun x y e => this e)).mp h
/-! ### loops by an invariant -/
/-- I: what holds ahead of each turn, by what is left; Fi: behind the loop; Re: of what is handed back within it -/
theorem loopL_inv {t : Tg} {b : En → Out} (I : List D → En → Prop) (Fi : En → Prop) (Re : Ce → En → Prop)
    (step : ∀ d ds e, I (d :: ds) e → ∃ e1, t d e = .ok e1 ∧ ((∃ e2, (b e1 = .nx e2 ∨ b e1 = .ct e2) ∧ I ds e2) ∨ (∃ e2, b e1 = .bk e2 ∧ Fi e2) ∨ ∃ c e2, b e1 = .rt c e2 ∧ Re c e2))
    (fin : ∀ e, I [] e → Fi e) : ∀ (ds : List D) (e : En), I ds e → (∃ e', loopL t b ds e = .nx e' ∧ Fi e') ∨ ∃ c e', loopL t b ds e = .rt c e' ∧ Re c e'
  | [], e, h => .inl ⟨e, rfl, fin e h⟩
  | d :: ds, e, h => by
    obtain ⟨e1, h1, h2⟩ := step d ds e h
    rw [loopL_cons, h1]
    rcases h2 with ⟨e2, h3 | h3, h4⟩ | ⟨e2, h3, h4⟩ | ⟨c, e2, h3, h4⟩
    · simp only [h3]
      exact loopL_inv I Fi Re step fin ds e2 h4
    · simp only [h3]
      exact loopL_inv I Fi Re step fin ds e2 h4
    · simp only [h3]
      exact .inl ⟨e2, rfl, h4⟩
    · simp only [h3]
      exact .inr ⟨c, e2, rfl, h4⟩
/-- .. a loop that nothing leaves -/
theorem loopL_nx {t : Tg} {b : En → Out} (I : List D → En → Prop)
    (step : ∀ d ds e, I (d :: ds) e → ∃ e1 e2, t d e = .ok e1 ∧ b e1 = .nx e2 ∧ I ds e2) : ∀ (ds : List D) (e : En), I ds e → ∃ e', loopL t b ds e = .nx e' ∧ I [] e'
  | [], e, h => ⟨e, rfl, h⟩
  | d :: ds, e, h => by
    obtain ⟨e1, e2, h1, h2, h3⟩ := step d ds e h
    rw [loopL_cons, h1]
    simp only [h2]
    exact loopL_nx I step ds e2 h3
/-- a loop as a fold: S tells the environment by a state -/
theorem loopL_fold {α σ : Type} {t : Tg} {b : En → Out} (enc : α → D) (S : σ → En → Prop) (f : σ → α → σ) (P : σ → List α → Prop)
    (step : ∀ x xs s e, P s (x :: xs) → S s e → ∃ e1 e2, t (enc x) e = .ok e1 ∧ b e1 = .nx e2 ∧ S (f s x) e2 ∧ P (f s x) xs) : ∀ (xs : List α) (s : σ) (e : En), P s xs → S s e → ∃ e', loopL t b (xs.map enc) e = .nx e' ∧ S (xs.foldl f s) e' ∧ P (xs.foldl f s) []
  | [], s, e, hp, hs => ⟨e, rfl, hs, hp⟩
  | x :: xs, s, e, hp, hs => by
    obtain ⟨e1, e2, h1, h2, h3, h4⟩ := step x xs s e hp hs
    rw [List.map_cons, loopL_cons, h1]
    simp only [h2]
    exact loopL_fold enc S f P step xs (f s x) e2 h4 h3
theorem rgD_map (lo : Int) : ∀ n : Nat, rgD lo n = (List.range n).map fun (i : Nat) => D.int (lo + (i : Int))
  | 0 => rfl
  | n + 1 => by
    rw [rgD, rgD_map (lo + 1) n, List.range_succ_eq_map, List.map_cons, List.map_map]
    congr 1
    · simp
    · apply List.map_congr_left
      intro i _
      simp only [Function.comp]
      congr 1
      omega
/-- while, by a measure -/
theorem while_inv {t : M Bool} {b : En → Out} (I : Nat → En → Prop) (Fi : En → Prop) (Re : Ce → En → Prop)
    (step : ∀ n e, I n e → ∃ k e1, t e = .ok (k, e1) ∧ (k = false → Fi e1) ∧ (k = true → (∃ e2 m, (b e1 = .nx e2 ∨ b e1 = .ct e2) ∧ m < n ∧ I m e2) ∨ (∃ e2, b e1 = .bk e2 ∧ Fi e2) ∨ ∃ c e2, b e1 = .rt c e2 ∧ Re c e2)) :
    ∀ (n : Nat) (e : En), I n e → (∃ e', sWhile t b e = .nx e' ∧ Fi e') ∨ ∃ c e', sWhile t b e = .rt c e' ∧ Re c e' := by
  intro n
  induction n using Nat.strongRecOn with
  | ind n ih =>
    intro e h
    obtain ⟨k, e1, h1, h2, h3⟩ := step n e h
    rw [sWhile_eq, h1]
    cases k with
    | false => exact .inl ⟨e1, rfl, h2 rfl⟩
    | true =>
      simp only
      rcases h3 rfl with ⟨e2, m, h4 | h4, h5, h6⟩ | ⟨e2, h4, h5⟩ | ⟨c, e2, h4, h5⟩
      · simp only [h4]
        exact ih m h5 e2 h6
      · simp only [h4]
        exact ih m h5 e2 h6
      · simp only [h4]
        exact .inl ⟨e2, rfl, h5⟩
      · simp only [h4]
        exact .inr ⟨c, e2, rfl, h5⟩
/-! ### comprehensions -/
theorem wipeE_idem {e e1 : En} {vs is : List Nat} {t : Tg} {d : D} (to : TgOk t is) (hs : ∀ i ∈ is, i ∈ vs) (h : t d (wipeE e vs) = .ok e1) : wipeE e1 vs = wipeE e vs := by
  apply List.ext_getElem?
  intro j
  have hl : e1.length = e.length := by rw [to.ln _ _ _ h, wipeE_len]
  rw [wipeE_get, wipeE_get]
  by_cases hv : j ∈ vs
  · rw [if_pos hv, if_pos hv]
    by_cases hj : j < e.length
    · rw [List.getElem?_eq_getElem hj, List.getElem?_eq_getElem (by omega)]; rfl
    · rw [List.getElem?_eq_none (Nat.le_of_not_lt hj), List.getElem?_eq_none (by omega)]
  · rw [if_neg hv, if_neg hv, to.ne _ _ _ h j (fun z => hv (hs j z)), wipeE_get, if_neg hv]
theorem tg_fr {e e1 : En} {vs is : List Nat} {t : Tg} {d : D} (to : TgOk t is) (h : t d (wipeE e vs) = .ok e1) : vs.all (frozenAt e1) = true := by
  rw [List.all_eq_true]
  intro j hj
  refine to.fz _ _ _ h j (.inr ?_)
  unfold frozenAt
  rw [wipeE_get, if_pos hj]
  cases e[j]? <;> rfl
theorem restE_same {e e' : En} {vs : List Nat} (h : wipeE e' vs = wipeE e vs) : restE e e' vs = e := by
  have hl : e'.length = e.length := by
    have := congrArg List.length h
    rwa [wipeE_len, wipeE_len] at this
  apply List.ext_getElem?
  intro j
  rw [restE_get e e' hl]
  by_cases hv : j ∈ vs
  · rw [if_pos hv]
  · rw [if_neg hv]
    have := congrArg (fun l => l[j]?) h
    simp only [wipeE_get, if_neg hv] at this
    exact this
theorem cLoop_pure {t : Tg} {vs is : List Nat} {c : M Bool} {m : M D} (to : TgOk t is) (hs : ∀ i ∈ is, i ∈ vs) (f : D → Option D) (e0 : En) : ∀ (ds acc : List D) (e : En), vs.all (frozenAt e) = true → wipeE e vs = wipeE e0 vs → acc.length + ds.length < 16000000 →
    (∀ d ∈ ds, ∃ e1, t d (wipeE e0 vs) = .ok e1 ∧ c e1 = .ok ((f d).isSome, e1) ∧ ∀ x, f d = some x → m e1 = .ok (x, e1)) → ∃ e', cLoop t vs c m ds acc e = .ok (acc ++ ds.filterMap f, e') ∧ wipeE e' vs = wipeE e0 vs
  | [], acc, e, hf, hw, _, _ => ⟨e, by unfold cLoop; rw [if_pos hf]; simp, hw⟩
  | d :: ds, acc, e, hf, hw, hz, h => by
    obtain ⟨e1, h1, h2, h3⟩ := h d List.mem_cons_self
    have hw1 := wipeE_idem to hs h1
    have hf1 := tg_fr to h1
    unfold cLoop
    rw [if_pos hf, hw, h1]
    simp only [Rs.bind_ok, h2]
    cases q : f d with
    | none =>
      simp only [Option.isSome_none, Bool.false_eq_true, if_false]
      obtain ⟨e', g1, g2⟩ := cLoop_pure to hs f e0 ds acc e1 hf1 hw1 (by simp at hz; omega) fun d hd => h d (List.mem_cons_of_mem _ hd)
      exact ⟨e', by rw [g1, List.filterMap_cons_none q], g2⟩
    | some x =>
      simp only [Option.isSome_some, if_true]
      rw [h3 x q]
      simp only [Rs.bind_ok]
      rw [if_pos (show acc.length < 16000000 by omega)]
      obtain ⟨e', g1, g2⟩ := cLoop_pure to hs f e0 ds (acc ++ [x]) e1 hf1 hw1 (by simp at hz ⊢; omega) fun d hd => h d (List.mem_cons_of_mem _ hd)
      exact ⟨e', by rw [g1, List.filterMap_cons_some q]; simp, g2⟩
/-- a comprehension that changes nothing -/
theorem mComp_pure {src : M (List D)} {t : Tg} {vs is : List Nat} {c : M Bool} {m : M D} {e : En} {ds : List D} (f : D → Option D) (hsrc : src e = .ok (ds, e)) (to : TgOk t is) (hs : ∀ i ∈ is, i ∈ vs) (hf : vs.all (frozenAt e) = true) (hz : ds.length < 16000000)
    (h : ∀ d ∈ ds, ∃ e1, t d (wipeE e vs) = .ok e1 ∧ c e1 = .ok ((f d).isSome, e1) ∧ ∀ x, f d = some x → m e1 = .ok (x, e1)) : mComp src t vs c m e = .ok (.l false (ds.filterMap f), e) := by
  obtain ⟨e', h1, h2⟩ := cLoop_pure to hs f e ds [] e hf rfl (by simpa using hz) h
  rw [mComp_r, hsrc]
  simp only [Rs.bind_ok, h1, List.nil_append]
  rw [restE_same h2]
/-- .. without a test -/
theorem mComp_map {src : M (List D)} {t : Tg} {vs is : List Nat} {m : M D} {e : En} {ds : List D} (f : D → D) (hsrc : src e = .ok (ds, e)) (to : TgOk t is) (hs : ∀ i ∈ is, i ∈ vs) (hf : vs.all (frozenAt e) = true) (hz : ds.length < 16000000)
    (h : ∀ d ∈ ds, ∃ e1, t d (wipeE e vs) = .ok e1 ∧ m e1 = .ok (f d, e1)) : mComp src t vs mYes m e = .ok (.l false (ds.map f), e) := by
  rw [mComp_pure (fun d => some (f d)) hsrc to hs hf hz]
  · show Rs.ok (Ce.l false (List.filterMap (some ∘ f) ds), e) = _
    rw [List.filterMap_eq_map]
  · intro d hd
    obtain ⟨e1, h1, h2⟩ := h d hd
    exact ⟨e1, h1, rfl, fun x hx => by cases hx; exact h2⟩
/-- a comprehension by an invariant of what is made and the environment -/
theorem cLoop_inv {t : Tg} {vs : List Nat} {c : M Bool} {m : M D} (I : List D → List D → En → Prop) (hfr : ∀ ds acc e, I ds acc e → vs.all (frozenAt e) = true)
    (step : ∀ d ds acc e, I (d :: ds) acc e → ∃ e1 b e2, t d (wipeE e vs) = .ok e1 ∧ c e1 = .ok (b, e2) ∧ (b = false → I ds acc e2) ∧ (b = true → ∃ x e3, m e2 = .ok (x, e3) ∧ acc.length < 16000000 ∧ I ds (acc ++ [x]) e3)) :
    ∀ (ds acc : List D) (e : En), I ds acc e → ∃ acc' e', cLoop t vs c m ds acc e = .ok (acc', e') ∧ I [] acc' e'
  | [], acc, e, h => ⟨acc, e, by unfold cLoop; rw [if_pos (hfr _ _ _ h)], h⟩
  | d :: ds, acc, e, h => by
    obtain ⟨e1, b, e2, h1, h2, h3, h4⟩ := step d ds acc e h
    unfold cLoop
    rw [if_pos (hfr _ _ _ h), h1]
    simp only [Rs.bind_ok, h2]
    cases b with
    | false =>
      simp only [Bool.false_eq_true, if_false]
      exact cLoop_inv I hfr step ds acc e2 (h3 rfl)
    | true =>
      obtain ⟨x, e3, h5, h6, h7⟩ := h4 rfl
      simp only [if_true, h5, Rs.bind_ok]
      rw [if_pos h6]
      exact cLoop_inv I hfr step ds (acc ++ [x]) e3 h7
theorem powD_i {i j : Int} (h : 0 ≤ j ∧ j ≤ 10000 ∧ i.natAbs < 2 ^ 64) : powD (.int i) (.int j) = .ok (.f (.int (i ^ j.toNat))) := if_pos h
@[simp] theorem powD_10_18 : powD (.int 10) (.int 18) = .ok (.f (.int 1000000000000000000)) := by
  rw [powD_i (by decide)]
  rfl
@[simp] theorem powD_10_9 : powD (.int 10) (.int 9) = .ok (.f (.int 1000000000)) := by
  rw [powD_i (by decide)]
  rfl
@[simp] theorem isT_ii (i : Int) : isT "int" (.int i) = true := by simp [isT, D.ty]
@[simp] theorem isT_ib (b : Bool) : isT "int" (.bool b) = true := by simp [isT, D.ty]
@[simp] theorem isT_in : isT "int" .none = false := by simp [isT, D.ty]
@[simp] theorem isT_is (s : Str) : isT "int" (.str s) = false := by simp [isT, D.ty]
@[simp] theorem isT_it (ds : List D) : isT "int" (.tuple ds) = false := by simp [isT, D.ty]
@[simp] theorem isT_il (ds : List D) : isT "int" (.list ds) = false := by simp [isT, D.ty]
@[simp] theorem isT_bi (i : Int) : isT "bool" (.int i) = false := by simp [isT, D.ty]
@[simp] theorem isT_bb (b : Bool) : isT "bool" (.bool b) = true := by simp [isT, D.ty]
@[simp] theorem isT_bn : isT "bool" .none = false := by simp [isT, D.ty]
@[simp] theorem isT_bs (s : Str) : isT "bool" (.str s) = false := by simp [isT, D.ty]
@[simp] theorem isT_bt (ds : List D) : isT "bool" (.tuple ds) = false := by simp [isT, D.ty]
@[simp] theorem isT_bl (ds : List D) : isT "bool" (.list ds) = false := by simp [isT, D.ty]
@[simp] theorem isT_si (i : Int) : isT "str" (.int i) = false := by simp [isT, D.ty]
@[simp] theorem isT_sb (b : Bool) : isT "str" (.bool b) = false := by simp [isT, D.ty]
@[simp] theorem isT_sn : isT "str" .none = false := by simp [isT, D.ty]
@[simp] theorem isT_ss (s : Str) : isT "str" (.str s) = true := by simp [isT, D.ty]
@[simp] theorem isT_st (ds : List D) : isT "str" (.tuple ds) = false := by simp [isT, D.ty]
@[simp] theorem isT_sl (ds : List D) : isT "str" (.list ds) = false := by simp [isT, D.ty]
@[simp] theorem isT_ti (i : Int) : isT "tuple" (.int i) = false := by simp [isT, D.ty]
@[simp] theorem isT_tb (b : Bool) : isT "tuple" (.bool b) = false := by simp [isT, D.ty]
@[simp] theorem isT_tn : isT "tuple" .none = false := by simp [isT, D.ty]
@[simp] theorem isT_ts (s : Str) : isT "tuple" (.str s) = false := by simp [isT, D.ty]
@[simp] theorem isT_tt (ds : List D) : isT "tuple" (.tuple ds) = true := by simp [isT, D.ty]
@[simp] theorem isT_tl (ds : List D) : isT "tuple" (.list ds) = false := by simp [isT, D.ty]
end DL

namespace DL
open PySem L2 PyProof.Rows
/-! ### lists of ints, loops by the turn -/
def D.isI : D → Bool
  | .int _ => true
  | _ => false
theorem isI_int {d : D} (h : d.isI = true) : ∃ i, d = .int i := by
  cases d <;> first | exact ⟨_, rfl⟩ | cases h
theorem allI_app {xs : List D} {i : Int} (h : xs.all D.isI = true) : (xs ++ [D.int i]).all D.isI = true := by
  rw [List.all_append, h]
  rfl
theorem allI_map {xs : List D} (h : xs.all D.isI = true) : ∃ ds : List Int, xs = ds.map D.int := by
  induction xs with
  | nil => exact ⟨[], rfl⟩
  | cons x xs ih =>
    rw [List.all_cons, Bool.and_eq_true] at h
    obtain ⟨ds, rfl⟩ := ih h.2
    obtain ⟨j, rfl⟩ := isI_int h.1
    exact ⟨j :: ds, rfl⟩
theorem allI_ints (ds : List Int) : (ds.map D.int).all D.isI = true := by
  induction ds with
  | nil => rfl
  | cons a l ih => exact ih
theorem allI_rg (lo : Int) : ∀ n, (rgD lo n).all D.isI = true
  | 0 => rfl
  | n + 1 => allI_rg (lo + 1) n
theorem ioAt_f {e : En} {i : Nat} {a : Option D} (h : e[i]? = some (a.map Ce.f)) : ioAt e i = false := by
  unfold ioAt
  rw [h]
  cases a <;> rfl
theorem tgN_f {e : En} {i : Nat} {a : Option D} {d : D} (h : e[i]? = some (a.map Ce.f)) : tgN i d e = .ok (e.set i (some (.f d))) := by
  rw [tgN_r, ioAt_f h]
  rfl
theorem loop_nx {t : Tg} {b : En → Out} {d : D} {ds : List D} {e e1 e2 : En} (h1 : t d e = .ok e1) (h2 : b e1 = .nx e2) : loopL t b (d :: ds) e = loopL t b ds e2 := by
  rw [loopL_cons, h1]
  simp only [h2]
theorem loop_ct {t : Tg} {b : En → Out} {d : D} {ds : List D} {e e1 e2 : En} (h1 : t d e = .ok e1) (h2 : b e1 = .ct e2) : loopL t b (d :: ds) e = loopL t b ds e2 := by
  rw [loopL_cons, h1]
  simp only [h2]
theorem loop_bk {t : Tg} {b : En → Out} {d : D} {ds : List D} {e e1 e2 : En} (h1 : t d e = .ok e1) (h2 : b e1 = .bk e2) : loopL t b (d :: ds) e = .nx e2 := by
  rw [loopL_cons, h1]
  simp only [h2]
theorem loop_rt {t : Tg} {b : En → Out} {d : D} {ds : List D} {e e1 e2 : En} {c : Ce} (h1 : t d e = .ok e1) (h2 : b e1 = .rt c e2) : loopL t b (d :: ds) e = .rt c e2 := by
  rw [loopL_cons, h1]
  simp only [h2]
theorem seq_nx {a b : En → Out} {e e' : En} (h : a e = .nx e') : sSeq a b e = b e' := by
  rw [sSeq_r, h]
theorem seq_rt {a b : En → Out} {e e' : En} {c : Ce} (h : a e = .rt c e') : sSeq a b e = .rt c e' := by
  rw [sSeq_r, h]
theorem seq_bk {a b : En → Out} {e e' : En} (h : a e = .bk e') : sSeq a b e = .bk e' := by
  rw [sSeq_r, h]
theorem while_t {t : M Bool} {b : En → Out} {e e1 e2 : En} (h1 : t e = .ok (true, e1)) (h2 : b e1 = .nx e2) : sWhile t b e = sWhile t b e2 := by
  rw [sWhile_eq, h1]
  simp only [h2]
theorem while_f {t : M Bool} {b : En → Out} {e e1 : En} (h1 : t e = .ok (false, e1)) : sWhile t b e = .nx e1 := by
  rw [sWhile_eq, h1]
theorem rng1_r {ma : M (List D)} {e e' : En} {n : Int} (h : ma e = .ok ([.int n], e')) (h1 : -(2 ^ 62) ≤ n) (h2 : n < 2 ^ 62) : mRng1 ma e = .ok (rgD 0 n.toNat, e') := by
  rw [mRng1_r, h]
  exact if_pos ⟨h1, h2⟩
theorem ixD_roN {ds : List D} {i : Int} {d : D} (h0 : 0 ≤ i) (h : ds[i.toNat]? = some d) : ixD (.ro ds) (.int i) = .ok (.f d) := by
  have := ixD_rn (n := i.toNat) h
  rwa [Int.toNat_of_nonneg h0] at this
theorem ixD_lN {ds : List D} {i : Int} {d : D} (h0 : 0 ≤ i) (h : ds[i.toNat]? = some d) : ixD (.list ds) (.int i) = .ok (.f d) := by
  have := ixD_ln (n := i.toNat) h
  rwa [Int.toNat_of_nonneg h0] at this
theorem ixD_tN {ds : List D} {i : Int} {d : D} (h0 : 0 ≤ i) (h : ds[i.toNat]? = some d) : ixD (.tuple ds) (.int i) = .ok (.f d) := by
  have := ixD_tn (n := i.toNat) h
  rwa [Int.toNat_of_nonneg h0] at this
end DL

namespace DL
open PySem L2 PyProof.Rows
/-! ### what is never come to; defs joined -/
def sNo : En → Out := fun _ => .no
@[simp] theorem sNo_r (e : En) : sNo e = .no := rfl
theorem pds_no {X : Cx} {sts : List Stmt} : PDs X sts sNo := ⟨fun _ _ _ _ _ _ ⟨_, _, _, _, h⟩ => h.elim⟩
theorem pds_never {X : Cx} {st : Stmt} : PDS X st sNo := ⟨fun _ _ _ _ _ _ ⟨_, _, _, _, h⟩ => h.elim⟩
section
variable {P : Program} {w : World} {K : PySem.W.Frag} {mg : Str → Option Value} {base : Heap}
theorem dfn_no {x : Str} {st : Stmt} {f : Addr} {fd : FuncData} {N ps : List Str} (A : At1 K mg x st ps f fd) (Sc : FnScope N ps (defScope st)) (hN : ps.length ≤ N.length) : DFn P w K mg base x 1 (fun _ => .no) :=
  dfn_ok A Sc hN sNo (fun _ _ _ _ _ _ _ => pds_no) fun _ _ _ h => by cases h
/-- the law's own -/
theorem DFn.law {x : Str} {k : Nat} {S : Sf} {st : Stmt} {f : Addr} {fd : FuncData} {N ps : List Str} (A : At1 K mg x st ps f fd) (Sc : FnScope N ps (defScope st)) (hN : ps.length ≤ N.length) (m : En → Out)
    (hb : ∀ (cdv : Value) (A : Around) (outer : List PySem.Env) (s : Shared) (H : Hp) (E : XK), Room k (A.deeper (envOfC x (defScope st) s.heap.objs.size f cdv)) → PDs (XX P w K mg base N x (defScope st) f cdv A outer s H E) (defBody st) m)
    (hS : ∀ cs c outs, S cs = .ok (c, outs) → cs.length = ps.length ∧ runD N.length m cs = .ok (c, outs)) : FnD P w K mg base (k + 1) f fd ps S := fnD_ok A.fn Sc hN m hb hS
theorem law_sem {n N : Nat} {m : En → Out} (h : ∀ ns : List Int, runD N m [.f (.ro (ns.map .int))] = .ok (.f (.bool true), [])) : ∀ cs c outs, lawS n cs = .ok (c, outs) → cs.length = 1 ∧ runD N m cs = .ok (c, outs) := by
  intro cs c outs hl
  obtain ⟨ns, _, rfl, rfl, rfl⟩ := lawS_ok hl
  exact ⟨rfl, h ns⟩
end
end DL

namespace DL
open PySem L2 PyProof.Rows RT RZ
/-! ### slices -/
def cutD (ds : List D) (lo hi : Option Int) : List D := (ds.drop (HT.sIx ds.length 0 lo)).take (HT.sIx ds.length ds.length hi - HT.sIx ds.length 0 lo)
def slD (x : D) (lo hi : Option Int) : Rs Ce := match x with
  | .tuple ds => .ok (.f (.tuple (cutD ds lo hi)))
  | .list ds => .ok (.l false (cutD ds lo hi))
  | .ro ds => .ok (.l false (cutD ds lo hi))
  | .str s => if s.length ≤ sizeLine then .ok (.f (.str (Txt.slice s lo hi))) else .no
  | _ => .no
def rSlD (K : PySem.W.Frag) : V → Option Int → Option Int → Hp → VK → Prop := fun x lo hi H Q => rSlA K x lo hi H Q ∨ (rSlL K x lo hi H Q ∨ C8.rSlX x lo hi H Q)
theorem sl_all {X : Cx} : SlR X (rSlD X.K) := sl_tupA.or (sl_list.or C8.sl_txt)
section
variable {X : Cx} {tg ex ey ez : Expr} {es : List Expr} {pos p p2 : Pos} {x : Str} {K : PySem.W.Frag} {lo hi : Option Expr}
def tO (K : PySem.W.Frag) (m : M (Option Int)) : TO := fun σ H Q => ∃ G F e d e', R K G F H σ e ∧ m e = .ok (d, e') ∧ ∀ F' H', Nx K G σ F H e F' H' e' → Q d H'
abbrev POd (X : Cx) (e : Option Expr) (m : M (Option Int)) : Prop := PO X e (tO X.K m)
def mO0 : M (Option Int) := fun e => .ok (none, e)
def mO1 (m : M D) : M (Option Int) := fun e => (m e).bind fun p => match p.1 with
  | .int i => .ok (some i, p.2)
  | _ => .no
theorem POimp {t t' : TO} {e : Option Expr} (h : PO X e t) (hi : ∀ σ H Q, t' σ H Q → t σ H Q) : PO X e t' := ⟨fun pins s σ H Q I q => h.run pins s σ H Q I (hi σ H Q q)⟩
theorem pod_none : POd X none mO0 := POimp po_none fun σ H Q ⟨G, F, e, d, e', r, hm, q⟩ => by
  cases hm
  exact q F H (Nx.refl r)
theorem pod_some {m : M D} (h : PF X ex m) : POd X (some ex) (mO1 m) := POimp (po_some h) fun σ H Q ⟨G, F, e, d, e', r, hm, q⟩ => by
  obtain ⟨x, e1, h1, hm⟩ := bind_ok2 hm
  simp only at hm
  split at hm
  · cases hm
    exact ⟨G, F, e, _, _, r, h1, fun v F' H' n hd => ⟨_, hd.int_inv, q F' H' n⟩⟩
  · cases hm
def mSlice (ma : M Hd) (ml mu : M (Option Int)) : M Ce := fun e => (ma e).bind fun p => (ml p.2).bind fun q => (mu q.2).bind fun r => (p.1.get r.2).bind fun x => (slD x q.1 r.1).bind fun c => .ok (c, r.2)
@[simp] theorem mSlice_r (ma : M Hd) (ml mu : M (Option Int)) (e : En) : mSlice ma ml mu e = (ma e).bind fun p => (ml p.2).bind fun q => (mu q.2).bind fun r => (p.1.get r.2).bind fun x => (slD x q.1 r.1).bind fun c => .ok (c, r.2) := rfl
@[simp] theorem mO0_r (e : En) : mO0 e = .ok (none, e) := rfl
@[simp] theorem mO1_r (m : M D) (e : En) : mO1 m e = (m e).bind fun p => match p.1 with
  | .int i => .ok (some i, p.2)
  | _ => .no := rfl
theorem DnA.cut {F : Hp} {xs : List V} {ds : List D} (h : DnA K F xs ds) (lo hi : Option Int) : DnA K F (cutV xs lo hi) (cutD ds lo hi) := by
  unfold cutV cutD
  rw [h.len]
  exact DnA.take _ (DnA.drop _ h)
theorem cutD_whole (ds : List D) (lo hi : Option Int) (h : HT.sIx ds.length 0 lo = 0 ∧ HT.sIx ds.length ds.length hi = ds.length) : cutD ds lo hi = ds := by
  unfold cutD
  rw [h.1, h.2]
  simp
theorem snd_sl (F H : Hp) (x : V) (dx : D) (lo hi : Option Int) (c : Ce) (Q : VK) (fh : Ex F H) (hx : Vw K F H dx x) (hg : slD dx lo hi = .ok c) (q : ∀ v F' H', Go F H F' H' noA → NAt K H F' H' c v → Q v H') : rSlD K x lo hi H Q := by
  cases dx with
  | tuple ds =>
    cases hg
    obtain ⟨a, xs, rfl, h3, h4, h4d⟩ := hx.tuple fh
    refine .inl ⟨a, xs, rfl, h3, fun hw => ?_, fun hw p hp => ?_⟩
    · rw [h4.len] at hw
      rw [cutD_whole ds lo hi hw] at q
      exact ret1 fh h4d rfl q
    · have go : Go F H (upd F p (.tup (cutV xs lo hi))) (upd H p (.tup (cutV xs lo hi))) noA := Go.newF fh hp
      exact q _ _ _ go (.inl ⟨_, rfl, .tup upd_same ((h4.cut lo hi).mono go.ff)⟩)
  | list ds =>
    cases hg
    obtain ⟨a, xs, rfl, h3, h4⟩ := hx.list fh
    refine .inr (.inl ⟨a, xs, rfl, SqL.of h3, fun p hp => ?_⟩)
    exact q _ F _ (Go.newO fh hp) (.inr ⟨rfl, p, _, _, rfl, hp, ex_none fh hp, upd_same, rfl, h4.cut lo hi⟩)
  | ro ds =>
    cases hg
    obtain ⟨a, xs, rfl, h3, h4⟩ := hx.ro fh
    refine .inr (.inl ⟨a, xs, rfl, h3, fun p hp => ?_⟩)
    exact q _ F _ (Go.newO fh hp) (.inr ⟨rfl, p, _, _, rfl, hp, ex_none fh hp, upd_same, rfl, h4.cut lo hi⟩)
  | str s =>
    obtain ⟨h1, hg⟩ := ite_ok hg
    cases hg
    rw [hx.str]
    exact .inr (.inr ⟨s, rfl, h1, ret1 fh (.str _) rfl q⟩)
  | none => cases hg
  | bool b => cases hg
  | int i => cases hg
  | dict t ks vs => cases hg
theorem pn_slice {ma : M Hd} {ml mu : M (Option Int)} (ha : PH X ex ma) (hl : POd X lo ml) (hu : POd X hi mu) : PN X (.Subscript ex (.Slice lo hi none p2) pos) (mSlice ma ml mu) := PEimp (pe_slice sl_all ha hl hu) fun σ H Q ⟨G, F, e, c, e', rr, hm, q⟩ => by
  obtain ⟨x, e1, h1, hm⟩ := bind_ok2 hm
  obtain ⟨l, e2, h2, hm⟩ := bind_ok2 hm
  obtain ⟨u, e3, h3, hm⟩ := bind_ok2 hm
  obtain ⟨dx, h4, hm⟩ := Rs.bind_eq hm
  obtain ⟨c', h5, hm⟩ := Rs.bind_eq hm
  cases hm
  refine ⟨G, F, e, x, e1, rr, h1, fun vx F1 H1 n1 hx => ⟨G, F1, e1, l, e2, n1.r, h2, fun F2 H2 n2 => ⟨G, F2, e2, u, e3, n2.r, h3, fun F3 H3 n3 => ?_⟩⟩⟩
  refine snd_sl F3 H3 vx dx l u c Q n3.r.fh (((hx.nx n2).nx n3).vw n3.r h4) h5 fun v F' H' go nat => ?_
  have n13 := (n1.trans n2).trans n3
  exact q v F' H' (n13.trans (n3.r.step go)) (nat.back n13.go rr.fh)
/-! ### reversed, enumerate, zip -/
def mRev (m : M D) : M (List D) := fun e => (m e).bind fun p => p.1.items.bind fun ds => .ok (ds.reverse, p.2)
@[simp] theorem mRev_r (m : M D) (e : En) : mRev m e = (m e).bind fun p => p.1.items.bind fun ds => .ok (ds.reverse, p.2) := rfl
theorem wk_rev {F : Hp} {a : Addr} {xs : List V} {ds : List D} (h : SqL K F a xs) (hd : DnA K F xs ds) : Wk K (Itv K a xs.length) F ds.reverse := fun i F2 H2 x1 x2 => by
  have hx := x1.trans x2
  have hl := hd.len
  refine ⟨fun d hi => ?_, fun hi => ?_⟩
  · have hlt : i < ds.length := by
      have := (List.getElem?_eq_some_iff.mp hi).1
      simpa using this
    rw [List.getElem?_reverse hlt] at hi
    obtain ⟨w, h1, h2⟩ := hd.get hi
    rw [← hl] at h1
    refine ⟨⟨by omega, xs, w, Evl.ex_l hx h, h1⟩, fun x H3 y => ?_⟩
    obtain ⟨rfl, y⟩ := y
    have := y xs (Evl.ex_l hx h)
    rw [h1] at this
    cases this
    exact ⟨F2, Go.refl x2, h2.mono x1⟩
  · have := List.getElem?_eq_none_iff.mp hi
    rw [List.length_reverse] at this
    show xs.length ≤ i
    omega
theorem wk_revT {F : Hp} {a : Addr} {xs : List V} {ds : List D} (h : SqT K F a xs) (hd : DnA K F xs ds) : Wk K (ItvT K a xs.length) F ds.reverse := fun i F2 H2 x1 x2 => by
  have hx := x1.trans x2
  have hl := hd.len
  refine ⟨fun d hi => ?_, fun hi => ?_⟩
  · have hlt : i < ds.length := by
      have := (List.getElem?_eq_some_iff.mp hi).1
      simpa using this
    rw [List.getElem?_reverse hlt] at hi
    obtain ⟨w, h1, h2⟩ := hd.get hi
    rw [← hl] at h1
    refine ⟨⟨by omega, xs, w, Evl.ex_t hx h, h1⟩, fun x H3 y => ?_⟩
    obtain ⟨rfl, y⟩ := y
    have := y xs (Evl.ex_t hx h)
    rw [h1] at this
    cases this
    exact ⟨F2, Go.refl x2, h2.mono x1⟩
  · have := List.getElem?_eq_none_iff.mp hi
    rw [List.length_reverse] at this
    show xs.length ≤ i
    omega
/-- what is walked stands in the frozen heap: a list, or a tuple -/
theorem items_at {F : Hp} {v : V} {d : D} {ds : List D} (h : Dn K F v d) (hi : d.items = .ok ds) : ∃ a xs, v = .ref a ∧ (SqL K F a xs ∨ SqT K F a xs) ∧ DnA K F xs ds := by
  cases d <;> first
    | (cases hi; done)
    | skip
  · cases hi
    obtain ⟨a, xs, q1, q2, q3⟩ := h.list_inv
    exact ⟨a, xs, q1, .inl (SqL.of q2), q3⟩
  · cases hi
    obtain ⟨a, xs, q1, q2, q3⟩ := h.tuple_inv
    exact ⟨a, xs, q1, .inr q2, q3⟩
  · cases hi
    obtain ⟨a, xs, q1, q2, q3⟩ := h.ro_inv
    exact ⟨a, xs, q1, .inl q2, q3⟩
theorem pid_rev {m : M D} (hg : Gl X "reversed") (hm : X.mg "reversed" = none) (h : PF X ex m) (hs : starEach [ex] X.env = (false, eval ex X.env) :: starEach [] X.env := by rfl) : PId X tg (.Call (.Name "reversed" p) [ex] [] pos) (mRev m) :=
  PIimp (pi_revA hg hm h hs) fun σ H Q ⟨G, F, e, ds, e', r, hm, q⟩ => by
    obtain ⟨d, e1, h1, hm⟩ := bind_ok2 hm
    obtain ⟨ds', h2, hm⟩ := Rs.bind_eq hm
    cases hm
    refine ⟨G, F, e, _, _, r, h1, fun v F' H' n hn => ?_⟩
    obtain ⟨a, xs, rfl, hl | ht, hd⟩ := items_at hn h2
    · exact ⟨a, xs, rfl, .inl ⟨Evl.ex_l n.r.fh hl, q _ F' H' n (wk_rev hl hd)⟩⟩
    · exact ⟨a, xs, rfl, .inr ⟨Evl.ex_t n.r.fh ht, q _ F' H' n (wk_revT ht hd)⟩⟩
def enD (i : Nat) : List D → List D
  | [] => []
  | d :: ds => .tuple [.int (i : Nat), d] :: enD (i + 1) ds
theorem enD_get : ∀ (ds : List D) (k i : Nat), (enD k ds)[i]? = (ds[i]?).map fun d => .tuple [.int ((k + i : Nat) : Int), d]
  | [], _, _ => by simp [enD]
  | d :: ds, k, 0 => by simp [enD]
  | d :: ds, k, i + 1 => by
    rw [enD, List.getElem?_cons_succ, List.getElem?_cons_succ, enD_get ds (k + 1) i, show k + 1 + i = k + (i + 1) by omega]
def mEnum (m : M D) : M (List D) := fun e => (m e).bind fun p => match p.1 with
  | .list ds => .ok (enD 0 ds, p.2)
  | .ro ds => .ok (enD 0 ds, p.2)
  | _ => .no
@[simp] theorem mEnum_r (m : M D) (e : En) : mEnum m e = (m e).bind fun p => match p.1 with
  | .list ds => .ok (enD 0 ds, p.2)
  | .ro ds => .ok (enD 0 ds, p.2)
  | _ => .no := rfl
/-- a pair that a walk has made -/
theorem pair_new {F2 H2 : Hp} {T : Addr} {x y : V} {dx dy : D} (x2 : Ex F2 H2) (hT : H2 T = none) (hx : Dn K F2 x dx) (hy : Dn K F2 y dy) : ∃ F3, Go F2 H2 F3 (upd H2 T (.tup [x, y])) noA ∧ Dn K F3 (.ref T) (.tuple [dx, dy]) := by
  have go : Go F2 H2 (upd F2 T (.tup [x, y])) (upd H2 T (.tup [x, y])) noA := Go.newF x2 hT
  exact ⟨_, go, .tup upd_same (.cons (hx.mono go.ff) (.cons (hy.mono go.ff) .nil))⟩
theorem wk_enum {F : Hp} {a : Addr} {xs : List V} {ds : List D} (h : SqL K F a xs) (hd : DnA K F xs ds) : Wk K (Ite K a) F (enD 0 ds) := fun i F2 H2 x1 x2 => by
  have hx := x1.trans x2
  have hl := hd.len
  refine ⟨fun d hi => ?_, fun hi => ?_⟩
  · rw [enD_get] at hi
    obtain ⟨d0, hi0, rfl⟩ := Option.map_eq_some_iff.mp hi
    replace hi := hi0
    obtain ⟨w, h1, h2⟩ := hd.get hi
    refine ⟨⟨xs, w, Evl.ex_l hx h, h1⟩, fun x H3 y => ?_⟩
    obtain ⟨T, z, rfl, hT, rfl, y⟩ := y
    have := y xs (Evl.ex_l hx h)
    rw [h1] at this
    cases this
    rw [Nat.zero_add]
    exact pair_new x2 hT (.int _) (h2.mono x1)
  · rw [enD_get] at hi
    have := List.getElem?_eq_none_iff.mp (Option.map_eq_none_iff.mp hi)
    exact ⟨xs, Evl.ex_l hx h, by omega⟩
theorem pid_enum {m : M D} {elts : List Expr} {kk : Nat} {tpos : Pos} (hg : Gl X "enumerate") (hm : X.mg "enumerate" = none) (h : PAd X [ex] (aCons m aNil)) (hs : starEach [ex] X.env = [(false, eval ex X.env)] := by rfl) : PId X (.Tuple elts kk tpos) (.Call (.Name "enumerate" p) [ex] [] pos) (mEnum m) :=
  PIimp (pi_enum hg hm h hs) fun σ H Q ⟨G, F, e, ds, e', r, hm, q⟩ => by
    obtain ⟨d, e1, h1, hm⟩ := bind_ok2 hm
    simp only at hm
    have h1' : aCons m aNil e = .ok ([d], e1) := by rw [aCons_r, h1]; rfl
    split at hm
    · rename_i ds'
      cases hm
      refine ⟨G, F, e, _, _, r, h1', fun vs F' H' n hd => ?_⟩
      cases hd with
      | cons g t =>
        cases t
        obtain ⟨a, xs, rfl, hl | ht, hd⟩ := items_at g rfl
        · exact ⟨a, xs, rfl, Evl.ex_l n.r.fh hl, q _ F' H' n (wk_enum hl hd)⟩
        · obtain ⟨a', xs', q1, q2, q3⟩ := g.list_inv
          cases q1
          exact ⟨a, xs', rfl, Evl.ex_l n.r.fh (SqL.of q2), q _ F' H' n (wk_enum (SqL.of q2) q3)⟩
    · rename_i ds'
      cases hm
      refine ⟨G, F, e, _, _, r, h1', fun vs F' H' n hd => ?_⟩
      cases hd with
      | cons g t =>
        cases t
        obtain ⟨a', xs', q1, q2, q3⟩ := g.ro_inv
        cases q1
        exact ⟨a', xs', rfl, Evl.ex_l n.r.fh q2, q _ F' H' n (wk_enum q2 q3)⟩
    · cases hm
def ziD : List D → List D → List D
  | a :: as, b :: bs => .tuple [a, b] :: ziD as bs
  | _, _ => []
theorem ziD_get : ∀ (as bs : List D) (i : Nat), (ziD as bs)[i]? = match as[i]?, bs[i]? with
    | some a, some b => some (.tuple [a, b])
    | _, _ => none
  | [], bs, i => by simp [ziD]
  | a :: as, [], i => by cases i <;> simp [ziD] <;> split <;> simp_all
  | a :: as, b :: bs, 0 => by simp [ziD]
  | a :: as, b :: bs, i + 1 => by
    rw [ziD, List.getElem?_cons_succ, List.getElem?_cons_succ, List.getElem?_cons_succ, ziD_get as bs i]
/-- zip of two lists, or of two tuples -/
def ziA : D → D → Rs (List D)
  | .tuple as, .tuple bs => .ok (ziD as bs)
  | .list as, .list bs => .ok (ziD as bs)
  | .list as, .ro bs => .ok (ziD as bs)
  | .ro as, .list bs => .ok (ziD as bs)
  | .ro as, .ro bs => .ok (ziD as bs)
  | _, _ => .no
def mZip (ma mb : M D) : M (List D) := fun e => (ma e).bind fun p => (mb p.2).bind fun q => (ziA p.1 q.1).bind fun ds => .ok (ds, q.2)
@[simp] theorem mZip_r (ma mb : M D) (e : En) : mZip ma mb e = (ma e).bind fun p => (mb p.2).bind fun q => (ziA p.1 q.1).bind fun ds => .ok (ds, q.2) := rfl
@[simp] theorem ziA_tt (as bs : List D) : ziA (.tuple as) (.tuple bs) = .ok (ziD as bs) := rfl
@[simp] theorem ziA_ll (as bs : List D) : ziA (.list as) (.list bs) = .ok (ziD as bs) := rfl
theorem wk_zip {F : Hp} {a b : Addr} {xs ys : List V} {as bs : List D} (h : SqL K F a xs) (hd : DnA K F xs as) (h' : SqL K F b ys) (hd' : DnA K F ys bs) : Wk K (Itz K a b) F (ziD as bs) := fun i F2 H2 x1 x2 => by
  have hx := x1.trans x2
  have hl := hd.len
  have hl' := hd'.len
  refine ⟨fun d hi => ?_, fun hi => ?_⟩
  · rw [ziD_get] at hi
    split at hi
    · rename_i da db g1 g2
      cases hi
      obtain ⟨w, h1, h2⟩ := hd.get g1
      obtain ⟨w', h1', h2'⟩ := hd'.get g2
      refine ⟨⟨xs, ys, w, w', Evl.ex_l hx h, Evl.ex_l hx h', h1, h1'⟩, fun x H3 y => ?_⟩
      obtain ⟨T, z, z', rfl, hT, rfl, y, y'⟩ := y
      have e1 := y xs (Evl.ex_l hx h)
      have e2 := y' ys (Evl.ex_l hx h')
      rw [h1] at e1
      rw [h1'] at e2
      cases e1
      cases e2
      exact pair_new x2 hT (h2.mono x1) (h2'.mono x1)
    · cases hi
  · rw [ziD_get] at hi
    refine ⟨xs, ys, Evl.ex_l hx h, Evl.ex_l hx h', ?_⟩
    rw [hl, hl']
    by_cases g1 : as.length ≤ i
    · exact .inl g1
    · by_cases g2 : bs.length ≤ i
      · exact .inr g2
      · rw [List.getElem?_eq_getElem (by omega), List.getElem?_eq_getElem (by omega)] at hi
        cases hi
theorem wk_zipT {F : Hp} {a b : Addr} {xs ys : List V} {as bs : List D} (h : SqT K F a xs) (hd : DnA K F xs as) (h' : SqT K F b ys) (hd' : DnA K F ys bs) : Wk K (ItzT K a b) F (ziD as bs) := fun i F2 H2 x1 x2 => by
  have hx := x1.trans x2
  have hl := hd.len
  have hl' := hd'.len
  refine ⟨fun d hi => ?_, fun hi => ?_⟩
  · rw [ziD_get] at hi
    split at hi
    · rename_i da db g1 g2
      cases hi
      obtain ⟨w, h1, h2⟩ := hd.get g1
      obtain ⟨w', h1', h2'⟩ := hd'.get g2
      refine ⟨⟨xs, ys, w, w', Evl.ex_t hx h, Evl.ex_t hx h', h1, h1'⟩, fun x H3 y => ?_⟩
      obtain ⟨T, z, z', rfl, hT, rfl, y, y'⟩ := y
      have e1 := y xs (Evl.ex_t hx h)
      have e2 := y' ys (Evl.ex_t hx h')
      rw [h1] at e1
      rw [h1'] at e2
      cases e1
      cases e2
      exact pair_new x2 hT (h2.mono x1) (h2'.mono x1)
    · cases hi
  · rw [ziD_get] at hi
    refine ⟨xs, ys, Evl.ex_t hx h, Evl.ex_t hx h', ?_⟩
    rw [hl, hl']
    by_cases g1 : as.length ≤ i
    · exact .inl g1
    · by_cases g2 : bs.length ≤ i
      · exact .inr g2
      · rw [List.getElem?_eq_getElem (by omega), List.getElem?_eq_getElem (by omega)] at hi
        cases hi
theorem Dn.sq {F : Hp} {v : V} {ds : List D} (h : Dn K F v (.list ds) ∨ Dn K F v (.ro ds)) : ∃ a xs, v = .ref a ∧ SqL K F a xs ∧ DnA K F xs ds := by
  rcases h with h | h
  · obtain ⟨a, xs, q1, q2, q3⟩ := h.list_inv
    exact ⟨a, xs, q1, SqL.of q2, q3⟩
  · exact h.ro_inv
theorem ziA_at {F : Hp} {v w : V} {d d' : D} {ds : List D} (h : Dn K F v d) (h' : Dn K F w d') (hi : ziA d d' = .ok ds) : ∃ a b xs ys as bs, v = .ref a ∧ w = .ref b ∧ ((SqL K F a xs ∧ SqL K F b ys) ∨ (SqT K F a xs ∧ SqT K F b ys)) ∧ DnA K F xs as ∧ DnA K F ys bs ∧ ds = ziD as bs := by
  unfold ziA at hi
  split at hi <;> first
    | (cases hi; done)
    | skip
  · cases hi
    obtain ⟨a, xs, q1, q2, q3⟩ := h.tuple_inv
    obtain ⟨b, ys, q4, q5, q6⟩ := h'.tuple_inv
    exact ⟨a, b, xs, ys, _, _, q1, q4, .inr ⟨q2, q5⟩, q3, q6, rfl⟩
  · cases hi
    obtain ⟨a, xs, q1, q2, q3⟩ := Dn.sq (.inl h)
    obtain ⟨b, ys, q4, q5, q6⟩ := Dn.sq (.inl h')
    exact ⟨a, b, xs, ys, _, _, q1, q4, .inl ⟨q2, q5⟩, q3, q6, rfl⟩
  · cases hi
    obtain ⟨a, xs, q1, q2, q3⟩ := Dn.sq (.inl h)
    obtain ⟨b, ys, q4, q5, q6⟩ := Dn.sq (.inr h')
    exact ⟨a, b, xs, ys, _, _, q1, q4, .inl ⟨q2, q5⟩, q3, q6, rfl⟩
  · cases hi
    obtain ⟨a, xs, q1, q2, q3⟩ := Dn.sq (.inr h)
    obtain ⟨b, ys, q4, q5, q6⟩ := Dn.sq (.inl h')
    exact ⟨a, b, xs, ys, _, _, q1, q4, .inl ⟨q2, q5⟩, q3, q6, rfl⟩
  · cases hi
    obtain ⟨a, xs, q1, q2, q3⟩ := Dn.sq (.inr h)
    obtain ⟨b, ys, q4, q5, q6⟩ := Dn.sq (.inr h')
    exact ⟨a, b, xs, ys, _, _, q1, q4, .inl ⟨q2, q5⟩, q3, q6, rfl⟩
theorem pid_zip {ma mb : M D} {elts : List Expr} {kk : Nat} {tpos : Pos} (hg : Gl X "zip") (hm : X.mg "zip" = none) (h : PAd X [ex, ey] (aCons ma (aCons mb aNil))) (hs : starEach [ex, ey] X.env = (false, eval ex X.env) :: starEach [ey] X.env := by rfl) (hpl : (backTo pos (starEach [ey] X.env)).any (·.1) = false := by rfl) : PId X (.Tuple elts kk tpos) (.Call (.Name "zip" p) [ex, ey] [] pos) (mZip ma mb) :=
  PIimp (pi_zipA hg hm h hs hpl) fun σ H Q ⟨G, F, e, ds, e', r, hm, q⟩ => by
    obtain ⟨d, e1, h1, hm⟩ := bind_ok2 hm
    obtain ⟨d', e2, h2, hm⟩ := bind_ok2 hm
    obtain ⟨ds', h3, hm⟩ := Rs.bind_eq hm
    cases hm
    have h1' : aCons ma (aCons mb aNil) e = .ok ([d, d'], e2) := by
      simp only [aCons_r, h1, Rs.bind_ok, h2, aNil_r]
    refine ⟨G, F, e, _, _, r, h1', fun vs F' H' n hd => ?_⟩
    cases hd with
    | cons g t =>
      cases t with
      | cons g' t =>
        cases t
        obtain ⟨a, b, xs, ys, as, bs, rfl, rfl, q1 | q1, q2, q3, rfl⟩ := ziA_at g g' h3
        · exact ⟨a, b, xs, ys, rfl, .inl ⟨Evl.ex_l n.r.fh q1.1, Evl.ex_l n.r.fh q1.2, q _ F' H' n (wk_zip q1.1 q2 q1.2 q3)⟩⟩
        · exact ⟨a, b, xs, ys, rfl, .inr ⟨Evl.ex_t n.r.fh q1.1, Evl.ex_t n.r.fh q1.2, q _ F' H' n (wk_zipT q1.1 q2 q1.2 q3)⟩⟩
/-! ### o[i] op= e over a list of one's own -/
theorem get_list : PGet X (rIxL X.K) := by
  intro pins s σ H x y v u Q I rx ry h
  obtain ⟨p, xs, i, z, rfl, rfl, hq, he, q⟩ := h
  cases rx
  obtain ⟨t, rfl⟩ := ry
  obtain ⟨its, r, pl, hz⟩ := I.list hq
  obtain ⟨j, h1, h2, h3, h4, h5⟩ := atI_get he
  obtain ⟨w, ew, rw'⟩ := r.get h2
  have hl := r.length
  have hn := line63
  have fin : EP X pins σ Q w s := ⟨z, H, I, rw', q⟩
  by_cases h0 : 0 ≤ i
  · have hj : i.toNat = j := by
      rw [seqIndex_of h0 h5] at h1
      exact Option.some.inj h1
    exact wpAny_getItem_list pl.isList h0 (by omega) (by rw [hj]; simpa using ew) fin
  · have hj : (i + (its.toArray.size : Int)).toNat = j := by
      rw [seqIndex_neg (by omega) h4] at h1
      rw [List.size_toArray, ← hl]
      exact Option.some.inj h1
    exact wpAny_getItem_list_neg pl.isList (by omega) (by rw [List.size_toArray] <;> omega) (by omega) (by rw [hj]; simpa using ew) fin
/-- xs[j] op= m -/
def sLAug (g : D → D → Rs Ce) (i : Nat) (mj m : M D) : En → Out := fun e => match e[i]? with
  | some (some (.l _ _)) => onR (mj e) fun k e1 => (match e1[i]?, k with
    | some (some (.l _ ds)), .int j => (match atI ds j with
      | some dx => onR (m e1) fun dy e2 => (match g dx dy, e2[i]? with
        | .ok (.f dz), some (some (.l p ds')) => (match ixN ds'.length j with
          | some jj => .nx (e2.set i (some (.l p (ds'.set jj dz))))
          | none => .no)
        | _, _ => .no)
      | none => .no)
    | _, _ => .no)
  | _ => .no
@[simp] theorem sLAug_r (g : D → D → Rs Ce) (i : Nat) (mj m : M D) (e : En) : sLAug g i mj m e = match e[i]? with
  | some (some (.l _ _)) => onR (mj e) fun k e1 => (match e1[i]?, k with
    | some (some (.l _ ds)), .int j => (match atI ds j with
      | some dx => onR (m e1) fun dy e2 => (match g dx dy, e2[i]? with
        | .ok (.f dz), some (some (.l p ds')) => (match ixN ds'.length j with
          | some jj => .nx (e2.set i (some (.l p (ds'.set jj dz))))
          | none => .no)
        | _, _ => .no)
      | none => .no)
    | _, _ => .no)
  | _ => .no := rfl
theorem atI_dn {F : Hp} {xs : List V} {ds : List D} {j : Int} {d : D} (h : DnA K F xs ds) (hj : atI ds j = some d) : ∃ v, atI xs j = some v ∧ Dn K F v d := by
  unfold atI at *
  rw [← h.len] at hj
  obtain ⟨k, h1, h2⟩ := Option.bind_eq_some_iff.mp hj
  obtain ⟨v, h3, h4⟩ := h.get h2
  exact ⟨v, by rw [h1]; exact h3, h4⟩
theorem pds_augS {i : Nat} {op : Operator} {r : R2} {g : D → D → Rs Ce} {mj m : M D} {tpos : Pos} (ho : PE X ex (tVar i)) (hi : PF X ey mj) (he : PF X ez m) (hop : OpR X (inplaceOp op) r) (hsnd : Snd2 X.K r g)
    (ha : ∀ ov iv new, augStore ey ov iv new = (do holding [new, ov, iv] (setItem ov iv new); release [new, ov, iv] []; pure .next) := by intros; rfl) :
    PDS X (.AugAssign (.Subscript ex ey tpos) op ez pos) (sLAug g i mj m) := PSimp (ps_augS ho hi get_list he hop set_list ha) fun E σ H ⟨G, F, e, rr, hp⟩ => by
  unfold sLAug at hp
  split at hp
  · rename_i p00 ds00 q0
    obtain ⟨k, e1, h1, hp⟩ := onR_inv hp
    split at hp
    · rename_i p0 ds j q1
      split at hp
      · rename_i dx q2
        obtain ⟨dy, e2, h2, hp⟩ := onR_inv hp
        split at hp
        · rename_i dz p ds' q3 q4
          split at hp
          · rename_i jj q5
            obtain ⟨a, xs0, s0, _⟩ := lst_at q0 rr rfl
            refine ⟨.ref a, s0, G, F, e, .int j, e1, rr, h1, fun y F1 H1 n1 hdk => ?_⟩
            obtain ⟨a1, xs1, s1, _, y2, y4⟩ := lst_at q1 n1.r rfl
            rw [s0] at s1
            cases s1
            obtain ⟨vx, g1, g2⟩ := atI_dn y4 q2
            refine ⟨a, xs1, j, vx, rfl, hdk.int_inv, SqL.of y2, g1, G, F1, e1, dy, e2, n1.r, h2, fun vy F2 H2 n2 hdy => ?_⟩
            refine hsnd F2 H2 vx vy dx dy _ _ n2.r.fh (.inl (n2.dn g2)) (.inl hdy) q3 fun z F3 H3 go nat => ?_
            have n3 := n2.r.step go
            obtain ⟨a2, xs2, s2, _, w2, w4⟩ := lst_at q4 n3.r rfl
            rw [s0] at s2
            cases s2
            refine ⟨a, xs2, j, jj, rfl, hdk.int_inv, w2, by rw [w4.len]; exact q5, ?_⟩
            have n4 := n3.r.wr (c' := .l p (ds'.set jj dz)) q4 s0 rfl (by cases p <;> rfl) (o' := .lst (xs2.set jj z)) (xs' := xs2.set jj z) rfl (w4.set jj nat.fz)
            exact hp F3 _ σ n4.r (((n1.go.ff.trans n2.go.ff)).trans go.ff)
          · exact hp.elim
        · exact hp.elim
      · exact hp.elim
    · exact hp.elim
  · exact hp.elim
end
end DL

namespace DL
open PySem L2 PyProof.Rows RT RZ
/-! ### sum, min, max, all, any -/
def intsOf : List D → Option (List Int)
  | [] => some []
  | .int i :: ds => (intsOf ds).map fun is => i :: is
  | _ :: _ => none
theorem intsOf_eq : ∀ {ds : List D} {is : List Int}, intsOf ds = some is → ds = is.map .int
  | [], is, h => by cases h; rfl
  | d :: ds, is, h => by
    cases d <;> first
      | (cases h; done)
      | skip
    obtain ⟨js, h1, rfl⟩ := Option.map_eq_some_iff.mp h
    rw [intsOf_eq h1]
    rfl
@[simp] theorem intsOf_ints (is : List Int) : intsOf (is.map .int) = some is := by
  induction is with
  | nil => rfl
  | cons i is ih => show (intsOf (is.map .int)).map _ = _; rw [ih]; rfl
def boolsOf : List D → Option (List Bool)
  | [] => some []
  | .bool i :: ds => (boolsOf ds).map fun is => i :: is
  | _ :: _ => none
theorem boolsOf_eq : ∀ {ds : List D} {is : List Bool}, boolsOf ds = some is → ds = is.map .bool
  | [], is, h => by cases h; rfl
  | d :: ds, is, h => by
    cases d <;> first
      | (cases h; done)
      | skip
    obtain ⟨js, h1, rfl⟩ := Option.map_eq_some_iff.mp h
    rw [boolsOf_eq h1]
    rfl
@[simp] theorem boolsOf_bools (is : List Bool) : boolsOf (is.map .bool) = some is := by
  induction is with
  | nil => rfl
  | cons i is ih => show (boolsOf (is.map .bool)).map _ = _; rw [ih]; rfl
def rSumT (K : PySem.W.Frag) : List V → Hp → VK → Prop := fun vs H Q => ∃ (a : Addr) (ns : List Int), vs = [V.ref a] ∧ SqT K H a (ns.map V.int) ∧ Q (.int ns.sum) H
theorem cr_sumT {X : Cx} (hc : X.calm = true) : CallR X (.builtin "sum") (rSumT X.K) := by
  intro pins s σ H vs us Q I r h
  obtain ⟨a, ns, rfl, hs, q⟩ := h
  obtain ⟨its, rv, hl, _⟩ := I.tuple hs
  rw [Vals.ref1 r]
  obtain ⟨xs, hx⟩ := rv.ints.allInts.items
  have hn : numsOf its.toArray.toList = ns := by rw [show its.toArray.toList = its from rfl, rv.ints.numsOf]
  rw [hx] at hl hn
  rw [nums_intItems] at hn
  refine PySem.W.ktm_sumG (I.ok.hd hc) hl fun h' tk t' hk => ?_
  rw [preSum_eq, List.take_of_length_le (by simp), hn]
  exact ⟨.int _, H, I.kept hk, ⟨_, rfl⟩, q⟩
def rSumA (K : PySem.W.Frag) : List V → Hp → VK → Prop := fun vs H Q => rSum K vs H Q ∨ rSumT K vs H Q
theorem call_sumA {X : Cx} (hc : X.calm = true) : CallR X (.builtin "sum") (rSumA X.K) := (cr_sum hc).or (cr_sumT hc)
section
variable {K : PySem.W.Frag}
/-- the ints of what is a list or a tuple of ints -/
def seqInts : D → Option (List Int)
  | .list ds => intsOf ds
  | .ro ds => intsOf ds
  | .tuple ds => intsOf ds
  | _ => none
def sumD : List D → Rs Ce
  | [d] => (match seqInts d with
    | some is => .ok (.f (.int is.sum))
    | none => .no)
  | _ => .no
theorem vw_ints {F H : Hp} {x : V} {d : D} {is : List Int} (fh : Ex F H) (h : Vw K F H d x) (hi : seqInts d = some is) : ∃ a, x = .ref a ∧ (SqL K H a (is.map .int) ∨ (SqT K H a (is.map .int) ∧ ∃ ds, d = .tuple ds)) := by
  cases d <;> first
    | (cases hi; done)
    | skip
  · have := intsOf_eq hi
    subst this
    obtain ⟨a, xs, rfl, h3, h4⟩ := h.list fh
    rw [h4.ints] at h3
    exact ⟨a, rfl, .inl (SqL.of h3)⟩
  · have := intsOf_eq hi
    subst this
    obtain ⟨a, xs, rfl, h3, h4, _⟩ := h.tuple fh
    rw [h4.ints] at h3
    exact ⟨a, rfl, .inr ⟨h3, _, rfl⟩⟩
  · have := intsOf_eq hi
    subst this
    obtain ⟨a, xs, rfl, h3, h4⟩ := h.ro fh
    rw [h4.ints] at h3
    exact ⟨a, rfl, .inl h3⟩
theorem snd_sum : SndL K (rSumA K) sumD := fun F H xs ds c Q fh hx hg q => by
  unfold sumD at hg
  split at hg
  · rename_i d
    split at hg
    · rename_i is hi
      cases hg
      obtain ⟨x, rfl, h⟩ := hx.one (ds := [])
      obtain ⟨a, rfl, h3 | ⟨h3, _⟩⟩ := vw_ints fh h hi
      · exact .inl ⟨a, is, rfl, h3, ret1 fh (.int _) rfl q⟩
      · exact .inr ⟨a, is, rfl, h3, ret1 fh (.int _) rfl q⟩
    · cases hg
  · cases hg
def maxL : List Int → Int
  | [] => 0
  | [i] => i
  | i :: j :: is => let m := maxL (j :: is); if i < m then m else i
def minL : List Int → Int
  | [] => 0
  | [i] => i
  | i :: j :: is => let m := minL (j :: is); if m < i then m else i
theorem maxL_mem : ∀ {l : List Int}, l ≠ [] → maxL l ∈ l ∧ ∀ y ∈ l, y ≤ maxL l
  | [i], _ => ⟨List.mem_cons_self, fun y hy => by rw [List.mem_singleton.mp hy]; exact Int.le_refl _⟩
  | i :: j :: is, _ => by
    obtain ⟨h1, h2⟩ := maxL_mem (l := j :: is) (List.cons_ne_nil _ _)
    show (if i < maxL (j :: is) then maxL (j :: is) else i) ∈ _ ∧ ∀ y ∈ _, y ≤ if i < maxL (j :: is) then maxL (j :: is) else i
    split
    · refine ⟨List.mem_cons_of_mem _ h1, fun y hy => ?_⟩
      rcases List.mem_cons.mp hy with rfl | hy
      · omega
      · exact h2 y hy
    · refine ⟨List.mem_cons_self, fun y hy => ?_⟩
      rcases List.mem_cons.mp hy with rfl | hy
      · omega
      · have := h2 y hy
        omega
theorem minL_mem : ∀ {l : List Int}, l ≠ [] → minL l ∈ l ∧ ∀ y ∈ l, minL l ≤ y
  | [i], _ => ⟨List.mem_cons_self, fun y hy => by rw [List.mem_singleton.mp hy]; exact Int.le_refl _⟩
  | i :: j :: is, _ => by
    obtain ⟨h1, h2⟩ := minL_mem (l := j :: is) (List.cons_ne_nil _ _)
    show (if minL (j :: is) < i then minL (j :: is) else i) ∈ _ ∧ ∀ y ∈ _, (if minL (j :: is) < i then minL (j :: is) else i) ≤ y
    split
    · refine ⟨List.mem_cons_of_mem _ h1, fun y hy => ?_⟩
      rcases List.mem_cons.mp hy with rfl | hy
      · omega
      · exact h2 y hy
    · refine ⟨List.mem_cons_self, fun y hy => ?_⟩
      rcases List.mem_cons.mp hy with rfl | hy
      · omega
      · have := h2 y hy
        omega
theorem maxL_uniq {l : List Int} {m : Int} (h1 : m ∈ l) (h2 : ∀ y ∈ l, y ≤ m) : maxL l = m := by
  obtain ⟨h3, h4⟩ := maxL_mem (List.ne_nil_of_mem h1)
  have := h2 _ h3
  have := h4 _ h1
  omega
theorem minL_uniq {l : List Int} {m : Int} (h1 : m ∈ l) (h2 : ∀ y ∈ l, m ≤ y) : minL l = m := by
  obtain ⟨h3, h4⟩ := minL_mem (List.ne_nil_of_mem h1)
  have := h2 _ h3
  have := h4 _ h1
  omega
/-- of a list of ints, or of two ints -/
def maxD : List D → Rs Ce
  | [.list ds] => (match intsOf ds with
    | some (i :: is) => .ok (.f (.int (maxL (i :: is))))
    | _ => .no)
  | [.int i, .int j] => .ok (.f (.int (if j > i then j else i)))
  | _ => .no
def minD : List D → Rs Ce
  | [.list ds] => (match intsOf ds with
    | some (i :: is) => .ok (.f (.int (minL (i :: is))))
    | _ => .no)
  | [.int i, .int j] => .ok (.f (.int (if j < i then j else i)))
  | _ => .no
def rMaxA (K : PySem.W.Frag) : List V → Hp → VK → Prop := fun xs H Q => rMax K xs H Q ∨ ∃ i j, xs = [.int i, .int j] ∧ Q (.int (if j > i then j else i)) H
def rMinA (K : PySem.W.Frag) : List V → Hp → VK → Prop := fun xs H Q => rMin K xs H Q ∨ ∃ i j, xs = [.int i, .int j] ∧ Q (.int (if j < i then j else i)) H
theorem call_maxA {X : Cx} (hc : X.calm = true) : CallR X (.builtin "max") (rMaxA X.K) := (cr_max hc).or (call_max2 hc)
theorem call_minA {X : Cx} (hc : X.calm = true) : CallR X (.builtin "min") (rMinA X.K) := (cr_min hc).or (call_min2 hc)
theorem snd_max : SndL K (rMaxA K) maxD := fun F H xs ds c Q fh hx hg q => by
  unfold maxD at hg
  split at hg
  · rename_i ds
    split at hg
    · rename_i i is hi
      cases hg
      obtain ⟨x, rfl, h⟩ := hx.one (ds := [])
      obtain ⟨a, rfl, h3 | ⟨h3, ds', e⟩⟩ := vw_ints fh h (is := i :: is) hi
      · exact .inl ⟨a, i :: is, rfl, h3, by simp, fun m h4 h5 => by rw [← maxL_uniq h4 h5]; exact ret1 fh (.int _) rfl q⟩
      · cases e
    · cases hg
  · cases hg
    obtain ⟨x, y, rfl, h1, h2⟩ := hx.two
    rw [h1.int, h2.int]
    exact .inr ⟨_, _, rfl, ret1 fh (.int _) rfl q⟩
  · cases hg
theorem snd_min : SndL K (rMinA K) minD := fun F H xs ds c Q fh hx hg q => by
  unfold minD at hg
  split at hg
  · rename_i ds
    split at hg
    · rename_i i is hi
      cases hg
      obtain ⟨x, rfl, h⟩ := hx.one (ds := [])
      obtain ⟨a, rfl, h3 | ⟨h3, ds', e⟩⟩ := vw_ints fh h (is := i :: is) hi
      · exact .inl ⟨a, i :: is, rfl, h3, by simp, fun m h4 h5 => by rw [← minL_uniq h4 h5]; exact ret1 fh (.int _) rfl q⟩
      · cases e
    · cases hg
  · cases hg
    obtain ⟨x, y, rfl, h1, h2⟩ := hx.two
    rw [h1.int, h2.int]
    exact .inr ⟨_, _, rfl, ret1 fh (.int _) rfl q⟩
  · cases hg
def allD : List D → Rs Ce
  | [.list ds] => (match boolsOf ds with
    | some bs => .ok (.f (.bool (bs.all id)))
    | none => .no)
  | _ => .no
def anyD : List D → Rs Ce
  | [.list ds] => (match boolsOf ds with
    | some bs => .ok (.f (.bool (bs.any id)))
    | none => .no)
  | _ => .no
theorem snd_all : SndL K (rAll K) allD := fun F H xs ds c Q fh hx hg q => by
  unfold allD at hg
  split at hg
  · rename_i ds
    split at hg
    · rename_i bs hi
      cases hg
      have := boolsOf_eq hi
      subst this
      obtain ⟨x, rfl, h⟩ := hx.one (ds := [])
      obtain ⟨a, xs, rfl, h3, h4⟩ := h.list fh
      rw [DnA.bools h4] at h3
      exact ⟨a, bs, rfl, SqL.of h3, ret1 fh (.bl _) rfl q⟩
    · cases hg
  · cases hg
theorem snd_any : SndL K (rAny K) anyD := fun F H xs ds c Q fh hx hg q => by
  unfold anyD at hg
  split at hg
  · rename_i ds
    split at hg
    · rename_i bs hi
      cases hg
      have := boolsOf_eq hi
      subst this
      obtain ⟨x, rfl, h⟩ := hx.one (ds := [])
      obtain ⟨a, xs, rfl, h3, h4⟩ := h.list fh
      rw [DnA.bools h4] at h3
      exact ⟨a, bs, rfl, SqL.of h3, ret1 fh (.bl _) rfl q⟩
    · cases hg
  · cases hg
end
@[simp] theorem sumD_l (is : List Int) : sumD [.list (is.map .int)] = .ok (.f (.int is.sum)) := by simp [sumD, seqInts]
@[simp] theorem sumD_t (is : List Int) : sumD [.tuple (is.map .int)] = .ok (.f (.int is.sum)) := by simp [sumD, seqInts]
theorem maxD_l {is : List Int} (h : is ≠ []) : maxD [.list (is.map .int)] = .ok (.f (.int (maxL is))) := by
  cases is with
  | nil => exact absurd rfl h
  | cons i is =>
    have : intsOf ((i :: is).map D.int) = some (i :: is) := intsOf_ints _
    simp only [maxD, this]
theorem minD_l {is : List Int} (h : is ≠ []) : minD [.list (is.map .int)] = .ok (.f (.int (minL is))) := by
  cases is with
  | nil => exact absurd rfl h
  | cons i is =>
    have : intsOf ((i :: is).map D.int) = some (i :: is) := intsOf_ints _
    simp only [minD, this]
@[simp] theorem maxD_2 (i j : Int) : maxD [.int i, .int j] = .ok (.f (.int (if j > i then j else i))) := rfl
@[simp] theorem minD_2 (i j : Int) : minD [.int i, .int j] = .ok (.f (.int (if j < i then j else i))) := rfl
@[simp] theorem allD_l (bs : List Bool) : allD [.list (bs.map .bool)] = .ok (.f (.bool (bs.all id))) := by simp [allD]
@[simp] theorem anyD_l (bs : List Bool) : anyD [.list (bs.map .bool)] = .ok (.f (.bool (bs.any id))) := by simp [anyD]
end DL

namespace DL
open PySem L2 PyProof.Rows RT RZ
/-! ### a list taken apart -/
def tgL (ts : List Tg) : Tg := fun d e => match d with
  | .list ds => tgAll ts ds e
  | .ro ds => tgAll ts ds e
  | _ => .no
@[simp] theorem tgL_l (ts : List Tg) (ds : List D) (e : En) : tgL ts (.list ds) e = tgAll ts ds e := rfl
@[simp] theorem tgL_r (ts : List Tg) (ds : List D) (e : En) : tgL ts (.ro ds) e = tgAll ts ds e := rfl
section
variable {X : Cx} {pos : Pos}
theorem pgd_lst {tgs : List Expr} {ts : List Tg} {is : List Nat} {k n : Nat} (hc : X.calm = true) (h : PGds X tgs ts is) (hl : ts.length = n) (hn : (assignEach tgs X.env).length = n := by rfl) (hst : (assignEach tgs X.env).findIdx? (·.1) = none := by rfl) : PGd X (.Tuple tgs k pos) (tgL ts) is :=
  PGimp (pg_unl hc h hn hst) fun v σ H Q ⟨G, F, e, d, e', r, hd, ht, q⟩ => by
    have key : ∀ (ts : List Tg) (ds : List D) (e : En), tgAll ts ds e = .ok e' → ts.length = ds.length := by
      intro ts
      induction ts with
      | nil => intro ds e h; cases ds with
        | nil => rfl
        | cons d ds => cases h
      | cons t ts ih => intro ds e h; cases ds with
        | nil => cases h
        | cons d ds =>
          obtain ⟨e1, _, h4⟩ := Rs.bind_eq h
          rw [List.length_cons, List.length_cons, ih ds e1 h4]
    unfold tgL at ht
    split at ht
    · rename_i ds
      obtain ⟨a, xs, rfl, h1, h2⟩ := Dn.sq (.inl hd)
      exact ⟨a, xs, rfl, Evl.ex_l r.fh h1, by rw [h2.len, ← key ts ds e ht, hl], G, F, e, ds, e', r, h2, ht, q⟩
    · rename_i ds
      obtain ⟨a, xs, rfl, h1, h2⟩ := Dn.sq (.inr hd)
      exact ⟨a, xs, rfl, Evl.ex_l r.fh h1, by rw [h2.len, ← key ts ds e ht, hl], G, F, e, ds, e', r, h2, ht, q⟩
    · cases ht
end
end DL

namespace DL
open PySem L2 PyProof.Rows RT RZ
/-! ### xs.index(i) -/
def indexD : D → D → Rs Ce
  | .list ds, .int i => (match intsOf ds with
    | some is => (match is.findIdx? (· == i) with
      | some k => .ok (.f (.int (k : Int)))
      | none => .no)
    | none => .no)
  | _, _ => .no
def mIndex (ma mb : M D) : M Ce := fun e => (ma e).bind fun p => if isT "list" p.1 = true then (mb p.2).bind fun q => (indexD p.1 q.1).bind fun c => .ok (c, q.2) else .no
@[simp] theorem mIndex_r (ma mb : M D) (e : En) : mIndex ma mb e = (ma e).bind fun p => if isT "list" p.1 = true then (mb p.2).bind fun q => (indexD p.1 q.1).bind fun c => .ok (c, q.2) else .no := rfl
theorem indexD_l {is : List Int} {i : Int} {k : Nat} (h : is.findIdx? (· == i) = some k) : indexD (.list (is.map .int)) (.int i) = .ok (.f (.int (k : Int))) := by
  simp only [indexD, intsOf_ints, h]
theorem indexD_inv {d i : D} {c : Ce} (h : indexD d i = .ok c) : ∃ (is : List Int) (j : Int) (k : Nat), d = .list (is.map .int) ∧ i = .int j ∧ is.findIdx? (· == j) = some k ∧ c = .f (.int (k : Int)) := by
  cases d <;> first
    | (cases h; done)
    | skip
  cases i <;> first
    | (cases h; done)
    | skip
  rename_i ds j
  cases hi : intsOf ds with
  | none => simp [indexD, hi] at h
  | some is =>
    cases hk : is.findIdx? (· == j) with
    | none => simp [indexD, hi, hk] at h
    | some k =>
      simp [indexD, hi, hk] at h
      exact ⟨is, j, k, by rw [intsOf_eq hi], rfl, hk, h.symm⟩
section
variable {X : Cx} {pos : Pos} {ex : Expr}
theorem pn_index {apos : Pos} {eo : Expr} {ma mb : M D} (ho : PF X eo ma) (he : PF X ex mb) (hbase : attributeBase eo "index" X.env (eval eo X.env) = eval eo X.env := by rfl)
    (hfew : ((backTo pos (starEach [ex] X.env)).all (fun y => !y.1) && (backToKw pos (keywordEach [] X.env)).all (fun y => y.1.isSome) && decide ([ex].length + ([] : List Keyword).length + (if ([] : List Keyword).isEmpty then 0 else 1) < 30)) = true := by rfl)
    (hline : (apos.endLine == pos.line) = true := by rfl) (hs : starEach [ex] X.env = (false, eval ex X.env) :: starEach [] X.env := by rfl) (hpl : (backTo pos (starEach [] X.env)).any (fun y => y.1) = false := by rfl) :
    PN X (.Call (.Attribute eo "index" apos) [ex] [] pos) (mIndex ma mb) :=
  PEimp (pe_bm PySem.F.plainAttrs_list PySem.F.slot_list_index PySem.F.type_list_index mt_index ho (pa_cons he pa_nil hs) hbase hfew hline hs hpl) fun σ H Q ⟨G, F, e, c, e', r, hm, q⟩ => by
  obtain ⟨d, e1, h1, hm⟩ := bind_ok2 hm
  obtain ⟨hx, hm⟩ := ite_ok hm
  obtain ⟨i, e2, h2, hm⟩ := bind_ok2 hm
  obtain ⟨c', h3, hm⟩ := Rs.bind_eq hm
  cases hm
  obtain ⟨is, i, k, rfl, rfl, hk, rfl⟩ := indexD_inv h3
  refine ⟨G, F, e, _, e1, r, h1, fun v F1 H1 n1 hv => ?_⟩
  obtain ⟨a, xs, rfl, g1, g2⟩ := Dn.sq (.inl hv)
  cases g2.ints
  refine ⟨.inl ⟨rfl, _, Evl.ex_l n1.r.fh g1⟩, G, F1, e1, _, _, n1.r, h2, fun w F2 H2 n2 hw => ?_⟩
  cases hw.int_inv
  obtain ⟨kl, k1, k2⟩ := List.findIdx?_eq_some_iff_getElem.mp hk
  have fl : (is.map V.int).all flatV = true := List.all_eq_true.mpr fun v hv => by
    obtain ⟨j, _, rfl⟩ := List.mem_map.mp hv
    rfl
  refine ⟨a, is.map .int, .int i, k, .int is[k], rfl, rfl, Evl.ex_l (n2.go.ff.trans n2.r.fh) g1, rfl, fl, by rw [List.getElem?_map, List.getElem?_eq_getElem kl]; rfl, k1, fun m z' hm hz => ?_, q _ F2 H2 (n1.trans n2) (.inl ⟨_, rfl, .int _⟩)⟩
  have hml : m < is.length := by omega
  rw [List.getElem?_map, List.getElem?_eq_getElem hml] at hz
  cases hz
  have := k2 m hm
  exact eq_false_of_ne_true this
end
/-! ### a tuple some times -/
def rRep2 (K : PySem.W.Frag) : R2 := fun x y H Q => ∃ a k xs, x = .ref a ∧ y = .int k ∧ SqT K H a xs ∧ 0 < xs.length ∧ xs.length ≤ 100 ∧ 2 ≤ k ∧ k ≤ 9000 ∧ ∀ p, H p = none → Q (.ref p) (upd H p (.tup (List.replicate k.toNat xs).flatten))
section
variable {X : Cx}
theorem op_rep2 : OpR X (binaryOp .Mult) (rRep2 X.K) := by
  intro ps st σ H x y vx vy Q I rx ry ⟨a, k, xs, ex, ey, hT, hp, hm, k2, k9, go⟩
  subst ex ey
  cases rx
  obtain ⟨tk, rfl⟩ := ry
  obtain ⟨its, rel, ⟨⟨cl, dd, dt, sls⟩, hob, hcl, n, hdt⟩, _⟩ := I.tuple hT
  simp only at hcl hdt
  subst hcl hdt
  have hlen : its.length = xs.length := rel.length.symm
  have hsz : its.toArray.size = xs.length := by rw [List.size_toArray, hlen]
  have hemp : its.toArray.isEmpty = false := by
    rcases its with _ | ⟨i0, i1⟩
    · exact absurd hlen (by simp; omega)
    · rfl
  have hprod : ((its.toArray.size : Nat) : Int) * k ≤ 900000 := by
    have h := Int.mul_le_mul_of_nonneg_right (a := (xs.length : Int)) (b := 100) (c := k) (by omega) (by omega)
    rw [hsz]
    omega
  have hflat : (List.replicate k.toNat its).flatten.length ≤ sizeLine := by
    have h := Nat.mul_le_mul (show k.toNat ≤ 9000 by omega) hm
    rw [PyProof.Rows.lm_len_rep_flat, hlen, sizeLine_eq]
    omega
  have fit : (decide (k < -(2 ^ 63)) || decide (k ≥ 2 ^ 63)) = false := by simp; omega
  have one : (its.toArray.isEmpty || k == 1) = false := by rw [hemp]; simp; omega
  have pos : (decide (k ≤ 0) || its.toArray.isEmpty) = false := by rw [hemp]; simp; omega
  have many : Builtin.Tuple.tupleTooMany (((its.toArray.size : Nat) : Int) * k) = false := by
    unfold Builtin.Tuple.tupleTooMany
    simp only [sizeLine_eq, decide_eq_false_iff_not]
    omega
  have meets := tuple_mulW a its.toArray n dd sls k tk fit one pos (by omega) many (by rw [size_rep, List.size_toArray]; exact hflat)
  have hty := fun (z : Shared) => typeIs_int z k tk
  refine wpAny_binaryOp_repeat_ref (T := "tuple") (U := "int") (by decide) ⟨_, hob, rfl⟩ hty noFill_tuple_mul F.fills_int_mul F.slot_int_rmul repeat_tuple F.slot_int_index.lookup ?_
  refine call_meets F.slot_int_rmul (hty st) F.entry_int_rmul (F.args_int_rmul_2 _ _) (int_rmul_tuple k tk a its.toArray n dd sls) ⟨hob, rfl, ⟨_, hob, rfl⟩, ?_⟩
  refine call_meets F.slot_tuple_mul ⟨_, hob, rfl⟩ F.entry_tuple_mul (F.args_tuple_mul_2 _ _) meets ⟨hob, ?_⟩
  rw [size_rep]
  have new := IsTup.new st.heap (List.replicate k.toNat its).flatten.toArray
  refine ⟨.ref st.heap.objs.size, _, I.laid (t' := st.toks) (o := .tup (List.replicate k.toNat xs).flatten) (fun b o' q => Heap.get?_push_of_some _ q) (Nat.le_refl _) ⟨?_, _, rel.rep k.toNat, IsTup.new _ _⟩, rfl, go _ (I.hok.fresh (Nat.le_refl _))⟩
  have h := Nat.mul_le_mul (show k.toNat ≤ 9000 by omega) hm
  rw [PyProof.Rows.lm_len_rep_flat, sizeLine_eq]
  omega
end
def repD : D → D → Rs Ce
  | .tuple ds, .int k => if 0 < ds.length ∧ ds.length ≤ 100 ∧ 2 ≤ k ∧ k ≤ 9000 then .ok (.f (.tuple (List.replicate k.toNat ds).flatten)) else .no
  | _, _ => .no
theorem snd_rep {K : PySem.W.Frag} : Snd2 K (rRep2 K) repD := fun F H x y dx dy c Q fh hx hy hg q => by
  unfold repD at hg
  split at hg
  · rename_i ds k
    obtain ⟨⟨h1, h2, h3, h4⟩, hg⟩ := ite_ok hg
    cases hg
    rw [hy.int]
    obtain ⟨a, xs, rfl, g1, g2, g3⟩ := hx.tuple fh
    refine ⟨a, k, xs, rfl, rfl, g1, by rw [g2.len]; exact h1, by rw [g2.len]; exact h2, h3, h4, fun p hp => ?_⟩
    have go : Go F H (upd F p (.tup (List.replicate k.toNat xs).flatten)) (upd H p (.tup (List.replicate k.toNat xs).flatten)) noA := Go.newF fh hp
    exact q _ _ _ go (.inl ⟨_, rfl, .tup upd_same ((DnA.rep g2 _).mono go.ff)⟩)
  · cases hg
/-! ### xs[i], xs[j] = a, b -/
def putK (i : Nat) (mj : M D) (v : D) (k : En → Out) : En → Out := fun e1 => match e1[i]? with
  | some (some (.l _ _)) => onR (mj e1) fun kx e2 => (match e2[i]?, kx with
    | some (some (.l p ds)), .int j => (match ixN ds.length j with
      | some jj => k (e2.set i (some (.l p (ds.set jj v))))
      | none => .no)
    | _, _ => .no)
  | _ => .no
def sPut2 (i : Nat) (mj mk m : M D) : En → Out := fun e => onR (m e) fun d e1 => match d with
  | .tuple [a, b] => putK i mj a (putK i mk b .nx) e1
  | _ => .no
section
variable {K : PySem.W.Frag} {G : Bs} {F F1 H1 : Hp} {σ : L2.St} {e1 : En} {i : Nat} {E : Ends}
theorem put_ok {mj : M D} {k : En → Out} {v : V} {dv : D} {Q : L2.St → Hp → Prop} (r : R K G F1 H1 σ e1) (hd : Dn K F1 v dv) (hp : Post K G F E (putK i mj dv k e1)) (ct : ∀ F2 H2 e2, Nx K G σ F1 H1 e1 F2 H2 e2 → Post K G F E (k e2) → Q σ H2) : gSub (tVar i) (tF K mj) rSetL v σ H1 Q := by
  unfold putK at hp
  split at hp
  · rename_i p0 ds0 g0
    obtain ⟨dk, e2, h2, hp⟩ := onR_inv hp
    obtain ⟨a, xs0, s0, _⟩ := lst_at g0 r rfl
    refine ⟨.ref a, s0, G, F1, e1, dk, e2, r, h2, fun y F2 H2 n2 hdk => ?_⟩
    split at hp
    · rename_i p ds j g2
      split at hp
      · rename_i jj hj
        obtain ⟨a', xs, s1, y1, y2, y4⟩ := lst_at g2 n2.r rfl
        rw [s0] at s1
        cases s1
        refine ⟨a, xs, j, jj, rfl, hdk.int_inv, y2, by rw [y4.len]; exact hj, ?_⟩
        have n3 := n2.r.wr (c' := .l p (ds.set jj dv)) g2 s0 rfl (by cases p <;> rfl) (o' := .lst (xs.set jj v)) (xs' := xs.set jj v) rfl (y4.set jj (n2.dn hd))
        exact ct F2 _ _ (n2.trans n3) hp
      · exact hp.elim
    · exact hp.elim
  · exact hp.elim
end
section
variable {X : Cx} {pos p1 p2 p3 p4 : Pos} {o1 o2 i1 i2 ez : Expr} {i kk : Nat}
theorem pds_put2 {mj mk m : M D} (hc : X.calm = true) (ho : PE X o1 (tVar i)) (hi : PF X i1 mj) (ho2 : PE X o2 (tVar i)) (hi2 : PF X i2 mk) (hv : PF X ez m)
    (hn : (assignEach [.Subscript o1 i1 p1, .Subscript o2 i2 p2] X.env).length = 2 := by rfl) (hst : (assignEach [.Subscript o1 i1 p1, .Subscript o2 i2 p2] X.env).findIdx? (fun z => z.1) = none := by rfl)
    (hs1 : (assignEach [.Subscript o1 i1 p1, .Subscript o2 i2 p2] X.env).map (fun z => z.2) = assign (.Subscript o1 i1 p1) X.env :: (assignEach [.Subscript o2 i2 p2] X.env).map (fun z => z.2) := by rfl)
    (hs2 : (assignEach [.Subscript o2 i2 p2] X.env).map (fun z => z.2) = assign (.Subscript o2 i2 p2) X.env :: (assignEach [] X.env).map (fun z => z.2) := by rfl)
    (hs : swapsWithSole [.Tuple [.Subscript o1 i1 p1, .Subscript o2 i2 p2] kk p3] ez pos.line X.env = pure false := by rfl) (hw : swappedStores [.Tuple [.Subscript o1 i1 p1, .Subscript o2 i2 p2] kk p3] ez X.env = pure none := by rfl)
    (h1 : (assignEach [.Tuple [.Subscript o1 i1 p1, .Subscript o2 i2 p2] kk p3] X.env).map (fun z => z.2) = [assign (.Tuple [.Subscript o1 i1 p1, .Subscript o2 i2 p2] kk p3) X.env] := by rfl)
    (ha : ∀ v, assign (.Subscript o1 i1 p1) X.env v = (do
      let ov ← holding [v] (eval o1 X.env)
      let iv ← holding [v, ov] (eval i1 X.env)
      standAt p1
      holding [v, ov, iv] (setItem ov iv v)
      release [v, ov, iv] []) := by intro _; rfl)
    (ha2 : ∀ v, assign (.Subscript o2 i2 p2) X.env v = (do
      let ov ← holding [v] (eval o2 X.env)
      let iv ← holding [v, ov] (eval i2 X.env)
      standAt p2
      holding [v, ov, iv] (setItem ov iv v)
      release [v, ov, iv] []) := by intro _; rfl) :
    PDS X (.Assign [.Tuple [.Subscript o1 i1 p1, .Subscript o2 i2 p2] kk p3] ez pos) (sPut2 i mj mk m) :=
  PSimp (ps_asg hv (pg_tup hc (pgs_cons (pg_sub ho hi set_list ha) (pgs_cons (pg_sub ho2 hi2 set_list ha2) pgs_nil hs2) hs1) hn hst) hs hw h1) fun E σ H ⟨G, F, e, r, hp⟩ => by
  obtain ⟨dv, e1, h1, hp⟩ := onR_inv hp
  refine ⟨G, F, e, dv, e1, r, h1, fun v F1 H1 n1 hdv => ?_⟩
  split at hp
  · rename_i a b
    obtain ⟨p, xs, rfl, g1, g2⟩ := hdv.tuple_inv
    cases g2 with
    | cons da t1 =>
      cases t1 with
      | cons db t2 =>
        cases t2
        refine ⟨p, _, rfl, Evl.ex_t n1.r.fh g1, rfl, _, _, rfl, put_ok n1.r da hp fun F2 H2 e2 n2 hp2 => ?_⟩
        refine ⟨_, _, rfl, put_ok n2.r (n2.dn db) hp2 fun F3 H3 e3 n3 hp3 => ⟨rfl, ?_⟩⟩
        exact hp3 F3 H3 σ n3.r (n1.go.ff.trans (n2.go.ff.trans n3.go.ff))
  · exact hp.elim
end
end DL

namespace Md
open PySem L2 DL PyProof.Rows
noncomputable def m_law_cell : En → Out :=
  (sSeq (sIf (mBool (m2 ltD (mH (mN (mVar 1))) (mH (mL lenD (aCons (mH (mN (mVar 0))) aNil))))) (sRet (m2 ixD (mH (mN (mVar 0))) (mH (mN (mVar 1))))) sNext)
    (sRet (mN (mC (.int 0)))))
noncomputable def m_law_digits_b1 : En → Out :=
  (sIf (mBool (m2 gtD (mH (mN (mVar 5))) (mH (mN (mC (.int 0)))))) (sSeq (sApp 3 (mZ (m2 modD (mH (mL intD (aCons (mH (mN (mVar 5))) aNil))) (mH (mN (mC (.int 1000)))))))
    (sAsgF 5 (mZ (m2 fdivD (mH (mN (mVar 5))) (mH (mN (mC (.int 1000)))))))) sNext)
noncomputable def m_law_digits_b2 : En → Out :=
  (sSeq (sAsgF 7 (mZ (m2 modD (mH (mL intD (aCons (mH (m2 addD (mH (m2 addD (mH (m2 mulD (mH (mN (mVar 7))) (mH (mN (mC (.int 16807)))))) (mH (m2 mulD (mH (mN (mC (.int 7)))) (mH (mN (mVar 6))))))) (mH (mN (mC (.int 1)))))) aNil))) (mH (mN (mC (.int 2147483647)))))))
    (sApp 3 (mZ (m2 modD (mH (mL intD (aCons (mH (m2 fdivD (mH (mN (mVar 7))) (mH (mN (mC (.int 997)))))) aNil))) (mH (mN (mC (.int 1000))))))))
noncomputable def m_law_digits_b3 (S_law_cell : Sf) : En → Out :=
  (sSeq (sAsgF 5 (mZ (mCall S_law_cell (aCons (aD (mVar 0)) (aCons (aD (mVar 4)) aNil)))))
    (sSeq (sIf (mBool (m2 ltD (mH (mN (mVar 5))) (mH (mN (mC (.int 0)))))) (sAsgF 5 (mZ (m2 subD (mH (mN (mC (.int 1)))) (mH (m2 mulD (mH (mN (mC (.int 2)))) (mH (mN (mVar 5)))))))) sNext)
    (sSeq (sIf (mBool (m2 gtD (mH (mL lenD (aCons (mSl 3) aNil))) (mH (mN (mC (.int 1500)))))) sBreak sNext)
    (sIf (mBool (m2 geD (mH (mN (mVar 5))) (mH (m2 powD (mH (mN (mC (.int 10)))) (mH (mN (mC (.int 18)))))))) (sFor (mRng1 (aCons (mC (.int 60)) aNil)) (tgN 6) m_law_digits_b1) (sSeq (sAsgF 7 (mZ (m2 modD (mH (mL intD (aCons (mH (m2 addD (mH (m2 addD (mH (m2 mulD (mH (mN (mVar 5))) (mH (mN (mC (.int 48271)))))) (mH (m2 mulD (mH (mN (mVar 4))) (mH (mN (mC (.int 69621)))))))) (mH (mN (mC (.int 11)))))) aNil))) (mH (mN (mC (.int 2147483647)))))))
    (sFor (mRng1 (aCons (mC (.int 12)) aNil)) (tgN 6) m_law_digits_b2))))))
noncomputable def m_law_digits (S_law_cell : Sf) : En → Out :=
  (sSeq (sAsg 3 (mLst aNil))
    (sSeq (sFor (mRng2 (aCons (mVar 1) (aCons (mVar 2) aNil))) (tgN 4) (m_law_digits_b3 S_law_cell))
    (sRetS 3)))
noncomputable def m_law_draw : En → Out :=
  (sSeq (sAsgF 2 (mZ (m2 ixD (mSl 0) (mH (mN (mC (.int 1)))))))
    (sSeq (sLPut 0 (mC (.int 1)) (mZ (m2 addD (mH (mN (mVar 2))) (mH (mN (mC (.int 1)))))))
    (sSeq (sIf (mBool (m2 ltD (mH (mN (mVar 2))) (mH (mL lenD (aCons (mH (m2 ixD (mSl 0) (mH (mN (mC (.int 0)))))) aNil))))) (sRet (m2 modD (mH (mL intD (aCons (mH (m2 ixD (mH (m2 ixD (mSl 0) (mH (mN (mC (.int 0)))))) (mH (mN (mVar 2))))) aNil))) (mH (mN (mVar 1))))) sNext)
    (sRet (m2 modD (mH (mL intD (aCons (mH (m2 mulD (mH (mN (mVar 2))) (mH (mN (mC (.int 7)))))) aNil))) (mH (mN (mVar 1))))))))
noncomputable def m_law_like_c1 (S_law_like : Sf) : M Bool :=
  (mNot (mTru (mH (mCall S_law_like (aCons (aD (mZ (m2 ixD (mH (mN (mVar 0))) (mH (mN (mVar 2)))))) (aCons (aD (mZ (m2 ixD (mH (mN (mVar 1))) (mH (mN (mVar 2)))))) aNil))))))
noncomputable def m_law_like_e1 : M D :=
  (mC (.int 1))
noncomputable def m_law_like (S_law_like : Sf) : En → Out :=
  (sSeq (sIf (mTru (mH (mN (mIs "tuple" (mH (mN (mVar 1))))))) (sSeq (sIf (mOr (mNot (mTru (mH (mN (mIs "tuple" (mH (mN (mVar 0)))))))) (mBool (m2 neD (mH (mL lenD (aCons (mH (mN (mVar 0))) aNil))) (mH (mL lenD (aCons (mH (mN (mVar 1))) aNil)))))) (sRet (mN (mC (.bool false)))) sNext)
    (sRet (m2 eqD (mH (mComp (mRng1 (aCons (mZ (mL lenD (aCons (mH (mN (mVar 1))) aNil))) aNil)) (tgN 2) [2] (m_law_like_c1 S_law_like) m_law_like_e1)) (mH (mLst aNil))))) sNext)
    (sSeq (sIf (mBool (m2 isD (mH (mN (mVar 1))) (mH (mN (mC .none))))) (sRet (m2 isD (mH (mN (mVar 0))) (mH (mN (mC .none))))) sNext)
    (sSeq (sIf (mBool (m2 isD (mH (mN (mVar 1))) (mH (mN (mC (.bool true)))))) (sRet (m2 isD (mH (mN (mVar 0))) (mH (mN (mC (.bool true)))))) sNext)
    (sSeq (sIf (mBool (m2 isD (mH (mN (mVar 1))) (mH (mN (mC (.bool false)))))) (sRet (m2 isD (mH (mN (mVar 0))) (mH (mN (mC (.bool false)))))) sNext)
    (sSeq (sIf (mTru (mH (mN (mIs "str" (mH (mN (mVar 1))))))) (sRet (mAndV (mN (mIs "str" (mH (mN (mVar 0))))) (m2 eqD (mH (mJoin (mH (mN (mC (.str "")))) (mH (mLst (aCons (mVar 0) aNil))))) (mH (mN (mVar 1)))))) sNext)
    (sRet (mAndV (mN (mIs "int" (mH (mN (mVar 0))))) (mAndV (mN (mNotV (mN (mIs "bool" (mH (mN (mVar 0))))))) (m2 eqD (mH (mN (mVar 0))) (mH (mN (mVar 1))))))))))))
noncomputable def m_law_number : En → Out :=
  (sRet (mAndV (mN (mIs "int" (mH (mN (mVar 0))))) (mAndV (mN (mNotV (mN (mIs "bool" (mH (mN (mVar 0))))))) (mChain leD leD (mH (mN (mVar 1))) (mH (mN (mVar 0))) (mH (mN (mVar 2)))))))
end Md
namespace Sh
open PySem L2 DL PyProof.Rows Md
/-! ### the laws' own small functions -/
/-- _law_cell -/
noncomputable def S_cell : Sf
  | [.f (.ro xs), .f (.int k)] => if 0 ≤ k then .ok (.f ((xs[k.toNat]?).getD (.int 0)), []) else .no
  | _ => .no
theorem sem_cell : ∀ cs c outs, S_cell cs = .ok (c, outs) → cs.length = 2 ∧ runD 2 m_law_cell cs = .ok (c, outs) := by
  intro cs c outs h
  unfold S_cell at h
  split at h
  · rename_i xs k
    obtain ⟨h1, h⟩ := ite_ok h
    cases h
    refine ⟨rfl, ?_⟩
    by_cases hk : k < (xs.length : Int)
    · have hx : xs[k.toNat]? = some (xs[k.toNat]'(by omega)) := List.getElem?_eq_getElem (by omega)
      simp [runD_r, startE, m_law_cell, hk, hx, ixD_roN h1 hx]
    · have hx : xs[k.toNat]? = none := List.getElem?_eq_none (by omega)
      simp [runD_r, startE, m_law_cell, hk, hx]
  · cases h
/-- the draw behind xs at the place at -/
def dv (xs : List D) (at' many : Int) : Int := match xs[at'.toNat]? with
  | some (.int d) => d % many
  | _ => (at' * 7) % many
theorem dv_nn {xs : List D} {a m : Int} (h : 0 < m) : 0 ≤ dv xs a m := by
  unfold dv
  split <;> exact Int.emod_nonneg _ (by omega)
theorem dv_lt {xs : List D} {a m : Int} (h : 0 < m) : dv xs a m < m := by
  unfold dv
  split <;> exact Int.emod_lt_of_pos _ h
/-- _law_draw -/
noncomputable def S_draw : Sf
  | [.l true [.list xs, .int a], .f (.int m)] => if 0 ≤ a ∧ a < 2 ^ 62 ∧ 0 < m ∧ m < 2 ^ 62 ∧ xs.all D.isI = true then .ok (.f (.int (dv xs a m)), [.l true [.list xs, .int (a + 1)]]) else .no
  | _ => .no
theorem draw_r {xs : List D} {a m : Int} (h : xs.all D.isI = true) (h1 : 0 ≤ a) (h2 : a < 2 ^ 62) (h3 : 0 < m) (h4 : m < 2 ^ 62) : S_draw [.l true [.list xs, .int a], .f (.int m)] = .ok (.f (.int (dv xs a m)), [.l true [.list xs, .int (a + 1)]]) := if_pos ⟨h1, h2, h3, h4, h⟩
theorem sem_draw : ∀ cs c outs, S_draw cs = .ok (c, outs) → cs.length = 2 ∧ runD 3 m_law_draw cs = .ok (c, outs) := by
  intro cs c outs h
  unfold S_draw at h
  split at h
  · rename_i xs a m
    obtain ⟨⟨h1, h2, h3, h4, h5⟩, h⟩ := ite_ok h
    cases h
    refine ⟨rfl, ?_⟩
    by_cases hk : a < (xs.length : Int)
    · have hx : xs[a.toNat]? = some (xs[a.toNat]'(by omega)) := List.getElem?_eq_getElem (by omega)
      have hi : D.isI (xs[a.toNat]'(by omega)) = true := List.all_eq_true.mp h5 _ (List.getElem_mem _)
      generalize xs[a.toNat]'(by omega) = d at hx hi
      cases d <;> simp [D.isI] at hi
      rename_i j
      simp [runD_r, startE, m_law_draw, hk, hx, ixD_lN h1 hx, modD_i h3, dv]
    · have hx : xs[a.toNat]? = none := List.getElem?_eq_none (by omega)
      have hm : MulOk a 7 := mulOk_r' (by decide) (by decide)
      simp [runD_r, startE, m_law_draw, hk, hx, modD_i h3, mulD_i hm, dv]
  · cases h
/-- _law_number -/
noncomputable def S_number : Sf
  | [.f (.int a), .f (.int lo), .f (.int hi)] => .ok (.f (.bool (decide (lo ≤ a) && decide (a ≤ hi))), [])
  | _ => .no
theorem sem_number : ∀ cs c outs, S_number cs = .ok (c, outs) → cs.length = 3 ∧ runD 3 m_law_number cs = .ok (c, outs) := by
  intro cs c outs h
  unfold S_number at h
  split at h
  · cases h
    refine ⟨rfl, ?_⟩
    rename_i a lo hi
    by_cases h1 : lo ≤ a
    · simp [runD_r, startE, m_law_number, h1]
    · simp [runD_r, startE, m_law_number, h1]
  · cases h
end Sh
namespace Sh
open PySem L2 DL PyProof.Rows Md
def eDig (r f l : D) (xs : List D) (a b c d : Option D) : En := [some (.f r), some (.f f), some (.f l), some (.l false xs), a.map .f, b.map .f, c.map .f, d.map .f]
theorem dig_w60 {r f l : D} {a d : Option D} : ∀ (ds xs : List D) (x : Int) (c : Option D), ds.all D.isI = true → xs.all D.isI = true → xs.length + ds.length ≤ 1560 →
    ∃ xs' x' c', loopL (tgN 6) (m_law_digits_b1) ds (eDig r f l xs a (some (.int x)) c d) = .nx (eDig r f l xs' a (some (.int x')) c' d) ∧ xs'.all D.isI = true ∧ xs'.length ≤ 1560
  | [], xs, x, c, _, h, hl => ⟨xs, x, c, rfl, h, by simpa using hl⟩
  | y :: ds, xs, x, c, hd, h, hl => by
    rw [List.all_cons, Bool.and_eq_true] at hd
    simp only [List.length_cons] at hl
    have e1 : tgN 6 y (eDig r f l xs a (some (.int x)) c d) = .ok (eDig r f l xs a (some (.int x)) (some y) d) := tgN_f (a := c) rfl
    have hdv : DivOk (1000 : Int) := divOk_of (n := 10) (by decide) (by decide) (by decide)
    have hlt : xs.length < 16000000 := by omega
    by_cases hx : 0 < x
    · have : m_law_digits_b1 (eDig r f l xs a (some (.int x)) (some y) d) = .nx (eDig r f l (xs ++ [.int (x % 1000)]) a (some (.int (x / 1000))) (some y) d) := by
        simp [m_law_digits_b1, eDig, hx, modD_i, fdivD_i hdv, hlt]
      rw [loop_nx e1 this]
      exact dig_w60 ds _ _ _ hd.2 (allI_app h) (by simp; omega)
    · have : m_law_digits_b1 (eDig r f l xs a (some (.int x)) (some y) d) = .nx (eDig r f l xs a (some (.int x)) (some y) d) := by
        simp [m_law_digits_b1, eDig, hx]
      rw [loop_nx e1 this]
      exact dig_w60 ds _ _ _ hd.2 h (by omega)
theorem dig_w12 {r f l : D} {a b : Option D} : ∀ (ds xs : List D) (x : Int) (c : Option D), ds.all D.isI = true → xs.all D.isI = true → xs.length + ds.length ≤ 1560 →
    ∃ xs' x' c', loopL (tgN 6) (m_law_digits_b2) ds (eDig r f l xs a b c (some (.int x))) = .nx (eDig r f l xs' a b c' (some (.int x'))) ∧ xs'.all D.isI = true ∧ xs'.length ≤ 1560
  | [], xs, x, c, _, h, hl => ⟨xs, x, c, rfl, h, by simpa using hl⟩
  | y :: ds, xs, x, c, hd, h, hl => by
    rw [List.all_cons, Bool.and_eq_true] at hd
    obtain ⟨i, rfl⟩ := isI_int hd.1
    simp only [List.length_cons] at hl
    have e1 : tgN 6 (.int i) (eDig r f l xs a b c (some (.int x))) = .ok (eDig r f l xs a b (some (.int i)) (some (.int x))) := tgN_f (a := c) rfl
    have hdv : DivOk (997 : Int) := divOk_of (n := 10) (by decide) (by decide) (by decide)
    have hlt : xs.length < 16000000 := by omega
    have m1 : MulOk x 16807 := mulOk_r' (by decide) (by decide)
    have m2 : MulOk 7 i := mulOk_l (by decide) (by decide)
    have : m_law_digits_b2 (eDig r f l xs a b (some (.int i)) (some (.int x))) = .nx (eDig r f l (xs ++ [.int ((x * 16807 + 7 * i + 1) % 2147483647 / 997 % 1000)]) a b (some (.int i)) (some (.int ((x * 16807 + 7 * i + 1) % 2147483647)))) := by
      simp [m_law_digits_b2, eDig, modD_i, fdivD_i hdv, hlt, mulD_i m1, mulD_i m2]
    rw [loop_nx e1 this]
    exact dig_w12 ds _ _ _ hd.2 (allI_app h) (by simp; omega)
theorem dig_loop (ns : List Int) : ∀ (ds xs : List D) (a b c d : Option D), ds.all (fun x => match x with | .int i => decide (0 ≤ i) | _ => false) = true → xs.all D.isI = true → xs.length ≤ 1560 → ∃ xs' a' b' c' d', loopL (tgN 4) (m_law_digits_b3 S_cell) ds (eDig (.ro (ns.map .int)) (.int 0) (.int 63) xs a b c d) = .nx (eDig (.ro (ns.map .int)) (.int 0) (.int 63) xs' a' b' c' d') ∧ xs'.all D.isI = true ∧ xs'.length ≤ 1560 := by
  intro ds
  induction ds with
  | nil => exact fun xs a b c d _ h hl => ⟨xs, a, b, c, d, rfl, h, hl⟩
  | cons y ds ih =>
    intro xs a b c d hd h hl
    rw [List.all_cons, Bool.and_eq_true] at hd
    obtain ⟨hy, hd⟩ := hd
    cases y <;> try (simp at hy; done)
    rename_i k
    simp only [decide_eq_true_eq] at hy
    have e1 : tgN 4 (.int k) (eDig (.ro (ns.map .int)) (.int 0) (.int 63) xs a b c d) = .ok (eDig (.ro (ns.map .int)) (.int 0) (.int 63) xs (some (.int k)) b c d) := tgN_f (a := a) rfl
    obtain ⟨i, hi⟩ : ∃ i, S_cell [.f (.ro (ns.map .int)), .f (.int k)] = .ok (.f (.int i), []) := by
      refine ⟨(ns[k.toNat]?).getD 0, ?_⟩
      show (if 0 ≤ k then _ else _) = _
      rw [if_pos hy, List.getElem?_map]
      cases ns[k.toNat]? <;> rfl
    have m : MulOk 2 i := mulOk_l (by decide) (by decide)
    obtain ⟨j, ej⟩ : ∃ j, j = if i < 0 then 1 - 2 * i else i := ⟨_, rfl⟩
    have e2 : ∀ s : En → Out, sSeq (sAsgF 5 (mZ (mCall S_cell (aCons (aD (mVar 0)) (aCons (aD (mVar 4)) aNil))))) s (eDig (.ro (ns.map .int)) (.int 0) (.int 63) xs (some (.int k)) b c d) = s (eDig (.ro (ns.map .int)) (.int 0) (.int 63) xs (some (.int k)) (some (.int i)) c d) := fun s => by
      cases b <;> simp [eDig, hi]
    have e3 : ∀ s : En → Out, sSeq (sIf (mBool (m2 ltD (mH (mN (mVar 5))) (mH (mN (mC (.int 0)))))) (sAsgF 5 (mZ (m2 subD (mH (mN (mC (.int 1)))) (mH (m2 mulD (mH (mN (mC (.int 2)))) (mH (mN (mVar 5)))))))) sNext) s (eDig (.ro (ns.map .int)) (.int 0) (.int 63) xs (some (.int k)) (some (.int i)) c d) = s (eDig (.ro (ns.map .int)) (.int 0) (.int 63) xs (some (.int k)) (some (.int j)) c d) := fun s => by
      by_cases hi : i < 0
      · simp [eDig, ej, hi, mulD_i m]
      · simp [eDig, ej, hi]
    by_cases hb : 1500 < xs.length
    · have : m_law_digits_b3 S_cell (eDig (.ro (ns.map .int)) (.int 0) (.int 63) xs (some (.int k)) b c d) = .bk (eDig (.ro (ns.map .int)) (.int 0) (.int 63) xs (some (.int k)) (some (.int j)) c d) := by
        unfold m_law_digits_b3
        have : (1500 : Int) < (xs.length : Int) := by omega
        rw [e2, e3]
        simp [eDig, this]
      rw [loop_bk e1 this]
      exact ⟨_, _, _, _, _, rfl, h, hl⟩
    · have h15 : ¬ (1500 : Int) < (xs.length : Int) := by omega
      by_cases hj : 1000000000000000000 ≤ j
      · obtain ⟨xs', x', c', g1, g2, g3⟩ := dig_w60 (r := .ro (ns.map .int)) (f := .int 0) (l := .int 63) (a := some (.int k)) (d := d) (rgD 0 60) xs j c (allI_rg 0 60) h (by rw [rgD_len]; omega)
        have : m_law_digits_b3 S_cell (eDig (.ro (ns.map .int)) (.int 0) (.int 63) xs (some (.int k)) b c d) = .nx (eDig (.ro (ns.map .int)) (.int 0) (.int 63) xs' (some (.int k)) (some (.int x')) c' d) := by
          unfold m_law_digits_b3
          rw [e2, e3, ← g1]
          simp [eDig, h15, hj]
        rw [loop_nx e1 this]
        exact ih _ _ _ _ _ hd g2 g3
      · have m1 : MulOk j 48271 := mulOk_r' (by decide) (by decide)
        have m2 : MulOk k 69621 := mulOk_r' (by decide) (by decide)
        obtain ⟨xs', x', c', g1, g2, g3⟩ := dig_w12 (r := .ro (ns.map .int)) (f := .int 0) (l := .int 63) (a := some (.int k)) (b := some (.int j)) (rgD 0 12) xs ((j * 48271 + k * 69621 + 11) % 2147483647) c (allI_rg 0 12) h (by rw [rgD_len]; omega)
        have : m_law_digits_b3 S_cell (eDig (.ro (ns.map .int)) (.int 0) (.int 63) xs (some (.int k)) b c d) = .nx (eDig (.ro (ns.map .int)) (.int 0) (.int 63) xs' (some (.int k)) (some (.int j)) c' (some (.int x'))) := by
          unfold m_law_digits_b3
          rw [e2, e3, ← g1]
          cases d <;> simp [eDig, h15, hj, modD_i, mulD_i m1, mulD_i m2]
        rw [loop_nx e1 this]
        exact ih _ _ _ _ _ hd g2 g3
theorem dig_run (ns : List Int) : ∃ ds : List Int, ds.length ≤ 1560 ∧ runD 8 (m_law_digits S_cell) [.f (.ro (ns.map .int)), .f (.int 0), .f (.int 63)] = .ok (.l false (ds.map .int), []) := by
  obtain ⟨xs', a', b', c', d', g1, g2, g3⟩ := dig_loop ns (rgD 0 63) [] none none none none (by rw [rgD_map]; simp) rfl (by simp)
  obtain ⟨ds, rfl⟩ := allI_map g2
  refine ⟨ds, by simpa using g3, ?_⟩
  have g0 : loopL (tgN 4) (m_law_digits_b3 S_cell) (rgD 0 63) [some (.f (.ro (ns.map .int))), some (.f (.int 0)), some (.f (.int 63)), some (.l false []), none, none, none, none] = .nx [some (.f (.ro (ns.map .int))), some (.f (.int 0)), some (.f (.int 63)), some (.l false (ds.map .int)), a'.map .f, b'.map .f, c'.map .f, d'.map .f] := g1
  simp [runD_r, startE, m_law_digits, g0]
/-- _law_digits -/
noncomputable def S_digits : Sf := specR (fun cs => ∃ ns : List Int, cs = [.f (.ro (ns.map .int)), .f (.int 0), .f (.int 63)]) 8 (m_law_digits S_cell)
theorem sem_digits : ∀ cs c outs, S_digits cs = .ok (c, outs) → cs.length = 3 ∧ runD 8 (m_law_digits S_cell) cs = .ok (c, outs) := specR_sem fun cs ⟨ns, h⟩ => by rw [h]; rfl
theorem digits_r (ns : List Int) : ∃ ds : List Int, ds.length ≤ 1560 ∧ S_digits [.f (.ro (ns.map .int)), .f (.int 0), .f (.int 63)] = .ok (.l false (ds.map .int), []) := by
  obtain ⟨ds, h1, h2⟩ := dig_run ns
  exact ⟨ds, h1, by unfold S_digits; rw [specR_ok ⟨ns, rfl⟩, h2]⟩
end Sh
namespace Sh
open PySem L2 DL PyProof.Rows Md
/-- what _law_like compares, n deep -/
def lk : Nat → D → Bool
  | _, .none => true
  | _, .bool _ => true
  | _, .int _ => true
  | _, .str s => decide (s.length ≤ 16777216)
  | n + 1, .tuple ds => decide (ds.length ≤ 10000000) && ds.all (lk n)
  | _, _ => false
open Classical in
noncomputable def S_like (n : Nat) : Sf
  | [.f a, .f b] => if a = b ∧ lk n b = true then .ok (.f (.bool true), []) else .no
  | _ => .no
theorem like_r {n : Nat} {b : D} (h : lk n b = true) : S_like n [.f b, .f b] = .ok (.f (.bool true), []) := if_pos ⟨rfl, h⟩
noncomputable def S_likeP : Nat → Sf
  | 0 => fun _ => .no
  | n + 1 => S_like n
theorem mem_rg {d : D} {n : Nat} (h : d ∈ rgD 0 n) : ∃ i : Nat, i < n ∧ d = .int (i : Int) := by
  rw [rgD_map] at h
  obtain ⟨i, hi, rfl⟩ := List.mem_map.mp h
  exact ⟨i, List.mem_range.mp hi, by simp⟩
@[simp] theorem eqD_nil : eqD (.list []) (.list []) = .ok (.f (.bool true)) := rfl
theorem lk_str {n : Nat} {s : Str} (h : lk n (.str s) = true) : s.length ≤ 16777216 := by
  cases n <;> exact of_decide_eq_true h
theorem lk_tup {n : Nat} {ds : List D} (h : lk (n + 1) (.tuple ds) = true) : ds.length ≤ 10000000 ∧ ds.all (lk n) = true := by
  have h' := Bool.and_eq_true _ _ ▸ h
  exact ⟨of_decide_eq_true h'.1, h'.2⟩
theorem sl_none (n : Nat) : runD 3 (m_law_like (S_likeP n)) [.f .none, .f .none] = .ok (.f (.bool true), []) := by simp [runD_r, startE, m_law_like]
theorem sl_bool (n : Nat) (b : Bool) : runD 3 (m_law_like (S_likeP n)) [.f (.bool b), .f (.bool b)] = .ok (.f (.bool true), []) := by cases b <;> simp [runD_r, startE, m_law_like]
theorem sl_int (n : Nat) (i : Int) : runD 3 (m_law_like (S_likeP n)) [.f (.int i), .f (.int i)] = .ok (.f (.bool true), []) := by simp [runD_r, startE, m_law_like]
theorem sl_str (n : Nat) (s : Str) (h : s.length ≤ 16777216) : runD 3 (m_law_like (S_likeP n)) [.f (.str s), .f (.str s)] = .ok (.f (.bool true), []) := by
  have hj : joinD (.str "") (.list [.str s]) = .ok (.f (.str s)) := by
    show (if ([s].map (·.length)).sum + [s].length * (Str.ofString "").length ≤ 16777216 then _ else _) = _
    rw [if_pos]
    · rfl
    · show s.length + 0 + 1 * 0 ≤ _
      omega
  simp [runD_r, startE, m_law_like, hj]
theorem sl_tup (n : Nat) (ds : List D) (hl : ds.length ≤ 10000000) (ha : ds.all (lk n) = true) : runD 3 (m_law_like (S_likeP (n + 1))) [.f (.tuple ds), .f (.tuple ds)] = .ok (.f (.bool true), []) := by
  have hc : mComp (mRng1 (aCons (mZ (mL lenD (aCons (mH (mN (mVar 1))) aNil))) aNil)) (tgN 2) [2] (m_law_like_c1 (S_likeP (n + 1))) m_law_like_e1 [some (.f (.tuple ds)), some (.f (.tuple ds)), none] = .ok (.l false [], [some (.f (.tuple ds)), some (.f (.tuple ds)), none]) := by
    have h0 : mRng1 (aCons (mZ (mL lenD (aCons (mH (mN (mVar 1))) aNil))) aNil) [some (.f (.tuple ds)), some (.f (.tuple ds)), none] = .ok (rgD 0 ds.length, [some (.f (.tuple ds)), some (.f (.tuple ds)), none]) := by
      have := rng1_r (ma := aCons (mZ (mL lenD (aCons (mH (mN (mVar 1))) aNil))) aNil) (e := [some (.f (.tuple ds)), some (.f (.tuple ds)), none]) (n := ds.length) (by simp; rfl) (by omega) (by omega)
      rw [this]
      simp
    rw [mComp_pure (fun _ => none) h0 (tgOk_n 2) (by simp) (by simp) (by rw [rgD_len]; omega) ?_]
    · simp
    · intro d hd
      obtain ⟨i, hi, rfl⟩ := mem_rg hd
      have hx : ds[i]? = some ds[i] := List.getElem?_eq_getElem hi
      have hk := like_r (List.all_eq_true.mp ha ds[i] (List.getElem_mem hi))
      refine ⟨[some (.f (.tuple ds)), some (.f (.tuple ds)), some (.f (.int i))], ?_, ?_, fun x hx => by cases hx⟩
      · simp [wipeE]
      · simp [m_law_like_c1, ixD_tn hx, S_likeP, hk]
  simp [runD_r, startE, m_law_like, hc]
open Classical in
theorem sem_like (n : Nat) : ∀ cs c outs, S_like n cs = .ok (c, outs) → cs.length = 2 ∧ runD 3 (m_law_like (S_likeP n)) cs = .ok (c, outs) := by
  intro cs c outs h
  unfold S_like at h
  split at h
  · rename_i a b
    by_cases hc : a = b ∧ lk n b = true
    case neg =>
      rw [if_neg hc] at h
      cases h
    rw [if_pos hc] at h
    obtain ⟨rfl, h2⟩ := hc
    cases h
    refine ⟨rfl, ?_⟩
    cases a with
    | none => exact sl_none n
    | bool b => exact sl_bool n b
    | int i => exact sl_int n i
    | str s => exact sl_str n s (lk_str h2)
    | tuple ds =>
      cases n with
      | zero => cases h2
      | succ n => exact sl_tup n ds (lk_tup h2).1 (lk_tup h2).2
    | list ds => cases n <;> cases h2
    | dict t ks vs => cases n <;> cases h2
    | ro ds => cases n <;> cases h2
  · cases h
end Sh

namespace Md
open PySem L2 DL PyProof.Rows
noncomputable def m_ratio : En → Out :=
  (sSeq (sAsgF 2 (mZ (mL gcdD (aCons (mH (mN (mVar 0))) (aCons (mH (mN (mVar 1))) aNil)))))
    (sSeq (sIf (mBool (m2 ltD (mH (mN (mVar 1))) (mH (mN (mC (.int 0)))))) (sAsgF 2 (mZ (m1 negD (mH (mN (mVar 2)))))) sNext)
    (sRet (mN (mTup (aCons (mZ (m2 fdivD (mH (mN (mVar 0))) (mH (mN (mVar 2))))) (aCons (mZ (m2 fdivD (mH (mN (mVar 1))) (mH (mN (mVar 2))))) aNil)))))))
noncomputable def m_law_gcd_b1 : En → Out :=
  (sSeq (sIf (mBool (m2 eqD (mH (mN (mVar 1))) (mH (mN (mC (.int 0)))))) sBreak sNext)
    (sParN 0 1 (mN (mVar 1)) (mN (mZ (m2 modD (mH (mL intD (aCons (mH (mN (mVar 0))) aNil))) (mH (mN (mVar 1))))))))
noncomputable def m_law_gcd : En → Out :=
  (sSeq (sFor (mRng1 (aCons (mC (.int 300)) aNil)) (tgN 2) m_law_gcd_b1)
    (sRet (mN (mVar 0))))
noncomputable def m_law_ratio (S_law_gcd : Sf) : En → Out :=
  (sSeq (sAsgF 2 (mZ (mCall S_law_gcd (aCons (aD (mZ (mL absD (aCons (mH (mN (mVar 0))) aNil)))) (aCons (aD (mVar 1)) aNil)))))
    (sRet (mN (mTup (aCons (mZ (m2 fdivD (mH (mN (mVar 0))) (mH (mN (mVar 2))))) (aCons (mZ (m2 fdivD (mH (mN (mVar 1))) (mH (mN (mVar 2))))) aNil))))))
end Md
namespace Sh
open PySem L2 DL PyProof.Rows Md
/-! ### gcd and ratio -/
theorem divOk_dvd {g b : Int} {n : Nat} (hg : 0 < g) (hd : g ∣ b) (h : 0 < b) (h2 : b < 2 ^ n) (hn : n ≤ 8000) : DivOk g :=
  divOk_of hg (Int.lt_of_le_of_lt (Int.le_of_dvd h hd) h2) hn
theorem gcd_pos_r {a b : Int} (h : 0 < b) : 0 < (Int.gcd a b : Int) := by
  have := Int.gcd_pos_of_ne_zero_right a (show b ≠ 0 by omega)
  omega
/-- a / b in its lowest terms -/
def redI (a b : Int) : Int × Int := (a / (Int.gcd a b : Int), b / (Int.gcd a b : Int))
def qD (p : Int × Int) : D := .tuple [.int p.1, .int p.2]
noncomputable def S_ratio : Sf
  | [.f (.int a), .f (.int b)] => if 0 < b ∧ b < 2 ^ 4000 then .ok (.f (qD (redI a b)), []) else .no
  | _ => .no
theorem ratio_r {a b : Int} (h : 0 < b) (h2 : b < 2 ^ 4000) : S_ratio [.f (.int a), .f (.int b)] = .ok (.f (qD (redI a b)), []) := if_pos ⟨h, h2⟩
theorem sem_ratio : ∀ cs c outs, S_ratio cs = .ok (c, outs) → cs.length = 2 ∧ runD 3 m_ratio cs = .ok (c, outs) := by
  intro cs c outs h
  unfold S_ratio at h
  split at h
  · rename_i a b
    obtain ⟨⟨h1, h2⟩, h⟩ := ite_ok h
    cases h
    have hg : DivOk (Int.gcd a b : Int) := divOk_dvd (gcd_pos_r h1) (Int.gcd_dvd_right a b) h1 h2 (by decide)
    refine ⟨rfl, ?_⟩
    have hb : decide (b < 0) = false := decide_eq_false (by omega)
    have hg' : DivOk ((a.natAbs.gcd b.natAbs : Nat) : Int) := hg
    simp [runD_r, startE, m_ratio, hb, fdivD_i hg', Int.gcd, qD, redI]
  · cases h
/-- _law_gcd's walk -/
theorem gcd_loop : ∀ (m : Nat) (ds : List D) (a b : Nat) (t : Option D), b < 2 ^ m → 2 * m ≤ ds.length →
    ∃ (b' : Int) (t' : Option D), loopL (tgN 2) m_law_gcd_b1 ds [some (.f (.int (a : Int))), some (.f (.int (b : Int))), t.map .f] = .nx [some (.f (.int ((Nat.gcd a b : Nat) : Int))), some (.f (.int b')), t'.map .f] := by
  have st : ∀ (d : D) (ds : List D) (a b : Nat) (t : Option D), 0 < b → loopL (tgN 2) m_law_gcd_b1 (d :: ds) [some (.f (.int (a : Int))), some (.f (.int (b : Int))), t.map .f] = loopL (tgN 2) m_law_gcd_b1 ds [some (.f (.int (b : Int))), some (.f (.int ((a % b : Nat) : Int))), some (.f d)] := by
    intro d ds a b t hb
    have hb0 : ¬ (b : Int) = 0 := by omega
    have hb1 : (0 : Int) < (b : Int) := by omega
    have hb2 : ¬ b = 0 := by omega
    exact loop_nx (tgN_f (a := t) rfl) (by simp [m_law_gcd_b1, hb0, hb2, modD_i hb1])
  have z : ∀ (ds : List D) (a : Nat) (t : Option D), ∃ (b' : Int) (t' : Option D), loopL (tgN 2) m_law_gcd_b1 ds [some (.f (.int (a : Int))), some (.f (.int ((0 : Nat) : Int))), t.map .f] = .nx [some (.f (.int ((Nat.gcd a 0 : Nat) : Int))), some (.f (.int b')), t'.map .f] := by
    intro ds a t
    rw [Nat.gcd_zero_right]
    cases ds with
    | nil => exact ⟨_, t, rfl⟩
    | cons d ds => exact ⟨0, some d, loop_bk (tgN_f (a := t) rfl) (by simp [m_law_gcd_b1])⟩
  intro m
  induction m with
  | zero =>
    intro ds a b t hb _
    have : b = 0 := by
      have : b < 1 := by simpa using hb
      omega
    subst this
    exact z ds a t
  | succ m ih =>
    intro ds a b t hb hl
    by_cases h0 : b = 0
    · subst h0
      exact z ds a t
    · match ds, hl with
      | d :: d2 :: ds, hl =>
        have hr := Nat.mod_lt a (show b > 0 by omega)
        have e1 : Nat.gcd a b = Nat.gcd b (a % b) := by
          rw [Nat.gcd_comm a b, Nat.gcd_rec b a, Nat.gcd_comm]
        rw [st d _ a b t (by omega), e1]
        by_cases h1 : a % b = 0
        · rw [h1]
          exact z _ b (some d)
        · have e2 : Nat.gcd b (a % b) = Nat.gcd (a % b) (b % (a % b)) := by
            rw [Nat.gcd_comm b, Nat.gcd_rec (a % b) b, Nat.gcd_comm]
          have hr2 := Nat.mod_lt b (show a % b > 0 by omega)
          have hd := Nat.div_add_mod b (a % b)
          have hq : 1 ≤ b / (a % b) := (Nat.le_div_iff_mul_le (by omega)).mpr (by omega)
          have hm : a % b ≤ (a % b) * (b / (a % b)) := Nat.le_mul_of_pos_right _ hq
          have := st d2 ds b (a % b) (some d) (by omega)
          rw [show (some d).map Ce.f = some (.f d) from rfl] at this
          rw [this, e2]
          exact ih ds (a % b) (b % (a % b)) (some d2) (by rw [Nat.pow_succ] at hb; omega) (by simp at hl; omega)
      | [_], hl => simp at hl; omega
      | [], hl => simp at hl
noncomputable def S_gcd : Sf
  | [.f (.int a), .f (.int b)] => if 0 ≤ a ∧ 0 ≤ b ∧ b < 2 ^ 150 then .ok (.f (.int (Int.gcd a b : Int)), []) else .no
  | _ => .no
theorem gcd_r {a b : Int} (h : 0 ≤ a) (h1 : 0 ≤ b) (h2 : b < 2 ^ 150) : S_gcd [.f (.int a), .f (.int b)] = .ok (.f (.int (Int.gcd a b : Int)), []) := if_pos ⟨h, h1, h2⟩
theorem sem_gcd : ∀ cs c outs, S_gcd cs = .ok (c, outs) → cs.length = 2 ∧ runD 3 m_law_gcd cs = .ok (c, outs) := by
  intro cs c outs h
  unfold S_gcd at h
  split at h
  · rename_i a b
    obtain ⟨⟨h0, h1, h2⟩, h⟩ := ite_ok h
    cases h
    refine ⟨rfl, ?_⟩
    obtain ⟨x, rfl⟩ := Int.eq_ofNat_of_zero_le h0
    obtain ⟨y, rfl⟩ := Int.eq_ofNat_of_zero_le h1
    obtain ⟨b', t', g⟩ := gcd_loop 150 (rgD 0 300) x y none (by exact_mod_cast h2) (by rw [rgD_len]; decide)
    rw [show (none : Option D).map Ce.f = none from rfl] at g
    simp [runD_r, startE, m_law_gcd, g]
  · cases h
noncomputable def S_lratio : Sf
  | [.f (.int a), .f (.int b)] => if 0 < b ∧ b < 2 ^ 150 then .ok (.f (qD (redI a b)), []) else .no
  | _ => .no
theorem lratio_r {a b : Int} (h : 0 < b) (h2 : b < 2 ^ 150) : S_lratio [.f (.int a), .f (.int b)] = .ok (.f (qD (redI a b)), []) := if_pos ⟨h, h2⟩
theorem sem_lratio : ∀ cs c outs, S_lratio cs = .ok (c, outs) → cs.length = 2 ∧ runD 3 (m_law_ratio S_gcd) cs = .ok (c, outs) := by
  intro cs c outs h
  unfold S_lratio at h
  split at h
  · rename_i a b
    obtain ⟨⟨h1, h2⟩, h⟩ := ite_ok h
    cases h
    have hg : DivOk (Int.gcd a b : Int) := divOk_dvd (gcd_pos_r h1) (Int.gcd_dvd_right a b) h1 h2 (by decide)
    refine ⟨rfl, ?_⟩
    have e : Int.gcd (if a < 0 then -a else a) b = Int.gcd a b := by
      split
      · exact Int.neg_gcd
      · rfl
    have hc := gcd_r (a := if a < 0 then -a else a) (b := b) (by split <;> omega) (by omega) h2
    rw [e] at hc
    simp [runD_r, startE, m_law_ratio, hc, fdivD_i hg, qD, redI]
  · cases h
end Sh

namespace Md
open PySem L2 DL PyProof.Rows
noncomputable def m_plus (S_ratio : Sf) : En → Out :=
  (sRet (mCall S_ratio (aCons (aD (mZ (m2 addD (mH (m2 mulD (mH (m2 ixD (mH (mN (mVar 0))) (mH (mN (mC (.int 0)))))) (mH (m2 ixD (mH (mN (mVar 1))) (mH (mN (mC (.int 1)))))))) (mH (m2 mulD (mH (m2 ixD (mH (mN (mVar 1))) (mH (mN (mC (.int 0)))))) (mH (m2 ixD (mH (mN (mVar 0))) (mH (mN (mC (.int 1))))))))))) (aCons (aD (mZ (m2 mulD (mH (m2 ixD (mH (mN (mVar 0))) (mH (mN (mC (.int 1)))))) (mH (m2 ixD (mH (mN (mVar 1))) (mH (mN (mC (.int 1))))))))) aNil))))
noncomputable def m_minus (S_ratio : Sf) : En → Out :=
  (sRet (mCall S_ratio (aCons (aD (mZ (m2 subD (mH (m2 mulD (mH (m2 ixD (mH (mN (mVar 0))) (mH (mN (mC (.int 0)))))) (mH (m2 ixD (mH (mN (mVar 1))) (mH (mN (mC (.int 1)))))))) (mH (m2 mulD (mH (m2 ixD (mH (mN (mVar 1))) (mH (mN (mC (.int 0)))))) (mH (m2 ixD (mH (mN (mVar 0))) (mH (mN (mC (.int 1))))))))))) (aCons (aD (mZ (m2 mulD (mH (m2 ixD (mH (mN (mVar 0))) (mH (mN (mC (.int 1)))))) (mH (m2 ixD (mH (mN (mVar 1))) (mH (mN (mC (.int 1))))))))) aNil))))
noncomputable def m_compare : En → Out :=
  (sSeq (sAsgF 2 (mZ (m2 subD (mH (m2 mulD (mH (m2 ixD (mH (mN (mVar 0))) (mH (mN (mC (.int 0)))))) (mH (m2 ixD (mH (mN (mVar 1))) (mH (mN (mC (.int 1)))))))) (mH (m2 mulD (mH (m2 ixD (mH (mN (mVar 1))) (mH (mN (mC (.int 0)))))) (mH (m2 ixD (mH (mN (mVar 0))) (mH (mN (mC (.int 1)))))))))))
    (sSeq (sIf (mBool (m2 eqD (mH (mN (mVar 2))) (mH (mN (mC (.int 0)))))) (sRet (mN (mC (.int 0)))) sNext)
    (sRet (mIf (mBool (m2 gtD (mH (mN (mVar 2))) (mH (mN (mC (.int 0)))))) (mN (mC (.int 1))) (m1 negD (mH (mN (mC (.int 1)))))))))
noncomputable def m_law_plus (S_law_ratio : Sf) : En → Out :=
  (sRet (mCall S_law_ratio (aCons (aD (mZ (m2 addD (mH (m2 mulD (mH (m2 ixD (mH (mN (mVar 0))) (mH (mN (mC (.int 0)))))) (mH (m2 ixD (mH (mN (mVar 1))) (mH (mN (mC (.int 1)))))))) (mH (m2 mulD (mH (m2 ixD (mH (mN (mVar 1))) (mH (mN (mC (.int 0)))))) (mH (m2 ixD (mH (mN (mVar 0))) (mH (mN (mC (.int 1))))))))))) (aCons (aD (mZ (m2 mulD (mH (m2 ixD (mH (mN (mVar 0))) (mH (mN (mC (.int 1)))))) (mH (m2 ixD (mH (mN (mVar 1))) (mH (mN (mC (.int 1))))))))) aNil))))
noncomputable def m_law_minus (S_law_ratio : Sf) : En → Out :=
  (sRet (mCall S_law_ratio (aCons (aD (mZ (m2 subD (mH (m2 mulD (mH (m2 ixD (mH (mN (mVar 0))) (mH (mN (mC (.int 0)))))) (mH (m2 ixD (mH (mN (mVar 1))) (mH (mN (mC (.int 1)))))))) (mH (m2 mulD (mH (m2 ixD (mH (mN (mVar 1))) (mH (mN (mC (.int 0)))))) (mH (m2 ixD (mH (mN (mVar 0))) (mH (mN (mC (.int 1))))))))))) (aCons (aD (mZ (m2 mulD (mH (m2 ixD (mH (mN (mVar 0))) (mH (mN (mC (.int 1)))))) (mH (m2 ixD (mH (mN (mVar 1))) (mH (mN (mC (.int 1))))))))) aNil))))
noncomputable def m_law_less : En → Out :=
  (sRet (m2 ltD (mH (m2 mulD (mH (m2 ixD (mH (mN (mVar 0))) (mH (mN (mC (.int 0)))))) (mH (m2 ixD (mH (mN (mVar 1))) (mH (mN (mC (.int 1)))))))) (mH (m2 mulD (mH (m2 ixD (mH (mN (mVar 1))) (mH (mN (mC (.int 0)))))) (mH (m2 ixD (mH (mN (mVar 0))) (mH (mN (mC (.int 1))))))))))
end Md
namespace Sh
open PySem L2 DL PyProof.Rows Md
/-! ### ratios reckoned -/
def Bg (i : Int) : Prop := i.natAbs < 2 ^ 1500
noncomputable instance (i : Int) : Decidable (Bg i) := Classical.propDecidable _
theorem bg_mul {i j : Int} (h : Bg i) (h2 : Bg j) : MulOk i j := .inr (.inr ⟨Nat.lt_of_lt_of_le h (pow_mono2 (by decide)), Nat.lt_of_lt_of_le h2 (pow_mono2 (by decide))⟩)
theorem bg_le {i : Int} {n : Nat} (h : i.natAbs < 2 ^ n) (hn : n ≤ 1500) : Bg i := Nat.lt_of_lt_of_le h (pow_mono2 hn)
theorem bg_small {i : Int} (h : i.natAbs < 2 ^ 64) : Bg i := bg_le h (by decide)
theorem mul_lt3000 {b d : Int} (h : Bg b) (h2 : Bg d) : b * d < 2 ^ 4000 := by
  have h3 : (b * d).natAbs < 2 ^ 4000 := by
    rw [Int.natAbs_mul]
    have h4 : b.natAbs * d.natAbs ≤ 2 ^ 1500 * 2 ^ 1500 := Nat.mul_le_mul (Nat.le_of_lt h) (Nat.le_of_lt h2)
    rw [← Nat.pow_add] at h4
    exact Nat.lt_of_le_of_lt h4 (Nat.pow_lt_pow_right (by decide) (by decide))
  have h5 : b * d ≤ ((b * d).natAbs : Int) := Int.le_natAbs
  have h6 : (((b * d).natAbs : Nat) : Int) < ((2 ^ 4000 : Nat) : Int) := Int.ofNat_lt.mpr h3
  rw [Int.natCast_pow] at h6
  exact Int.lt_of_le_of_lt h5 h6
noncomputable def S_plus : Sf
  | [.f (.tuple [.int a, .int b]), .f (.tuple [.int c, .int d])] => if 0 < b * d ∧ Bg a ∧ Bg b ∧ Bg c ∧ Bg d then .ok (.f (qD (redI (a * d + c * b) (b * d))), []) else .no
  | _ => .no
noncomputable def S_minus : Sf
  | [.f (.tuple [.int a, .int b]), .f (.tuple [.int c, .int d])] => if 0 < b * d ∧ Bg a ∧ Bg b ∧ Bg c ∧ Bg d then .ok (.f (qD (redI (a * d - c * b) (b * d))), []) else .no
  | _ => .no
noncomputable def S_lplus : Sf
  | [.f (.tuple [.int a, .int b]), .f (.tuple [.int c, .int d])] => if 0 < b * d ∧ b * d < 2 ^ 150 ∧ Bg a ∧ Bg b ∧ Bg c ∧ Bg d then .ok (.f (qD (redI (a * d + c * b) (b * d))), []) else .no
  | _ => .no
noncomputable def S_lminus : Sf
  | [.f (.tuple [.int a, .int b]), .f (.tuple [.int c, .int d])] => if 0 < b * d ∧ b * d < 2 ^ 150 ∧ Bg a ∧ Bg b ∧ Bg c ∧ Bg d then .ok (.f (qD (redI (a * d - c * b) (b * d))), []) else .no
  | _ => .no
noncomputable def S_less : Sf
  | [.f (.tuple [.int a, .int b]), .f (.tuple [.int c, .int d])] => if Bg a ∧ Bg b ∧ Bg c ∧ Bg d then .ok (.f (.bool (decide (a * d < c * b))), []) else .no
  | _ => .no
noncomputable def S_compare : Sf
  | [.f (.tuple [.int a, .int b]), .f (.tuple [.int c, .int d])] => if Bg a ∧ Bg b ∧ Bg c ∧ Bg d then .ok (.f (.int (if a * d - c * b = 0 then 0 else if 0 < a * d - c * b then 1 else -1)), []) else .no
  | _ => .no
theorem sem_plus : ∀ cs c outs, S_plus cs = .ok (c, outs) → cs.length = 2 ∧ runD 2 (m_plus S_ratio) cs = .ok (c, outs) := by
  intro cs c outs h
  unfold S_plus at h
  split at h
  · rename_i a b c d
    obtain ⟨⟨h1, h2, h3, h4, h5⟩, h⟩ := ite_ok h
    cases h
    have hr := ratio_r (a := a * d + c * b) h1 (mul_lt3000 h3 h5)
    exact ⟨rfl, by simp [runD_r, startE, m_plus, mulD_i (bg_mul h2 h5), mulD_i (bg_mul h4 h3), mulD_i (bg_mul h3 h5), hr]⟩
  · cases h
theorem sem_minus : ∀ cs c outs, S_minus cs = .ok (c, outs) → cs.length = 2 ∧ runD 2 (m_minus S_ratio) cs = .ok (c, outs) := by
  intro cs c outs h
  unfold S_minus at h
  split at h
  · rename_i a b c d
    obtain ⟨⟨h1, h2, h3, h4, h5⟩, h⟩ := ite_ok h
    cases h
    have hr := ratio_r (a := a * d - c * b) h1 (mul_lt3000 h3 h5)
    exact ⟨rfl, by simp [runD_r, startE, m_minus, mulD_i (bg_mul h2 h5), mulD_i (bg_mul h4 h3), mulD_i (bg_mul h3 h5), hr]⟩
  · cases h
theorem sem_lplus : ∀ cs c outs, S_lplus cs = .ok (c, outs) → cs.length = 2 ∧ runD 2 (m_law_plus S_lratio) cs = .ok (c, outs) := by
  intro cs c outs h
  unfold S_lplus at h
  split at h
  · rename_i a b c d
    obtain ⟨⟨h1, h0, h2, h3, h4, h5⟩, h⟩ := ite_ok h
    cases h
    have hr := lratio_r (a := a * d + c * b) h1 h0
    exact ⟨rfl, by simp [runD_r, startE, m_law_plus, mulD_i (bg_mul h2 h5), mulD_i (bg_mul h4 h3), mulD_i (bg_mul h3 h5), hr]⟩
  · cases h
theorem sem_lminus : ∀ cs c outs, S_lminus cs = .ok (c, outs) → cs.length = 2 ∧ runD 2 (m_law_minus S_lratio) cs = .ok (c, outs) := by
  intro cs c outs h
  unfold S_lminus at h
  split at h
  · rename_i a b c d
    obtain ⟨⟨h1, h0, h2, h3, h4, h5⟩, h⟩ := ite_ok h
    cases h
    have hr := lratio_r (a := a * d - c * b) h1 h0
    exact ⟨rfl, by simp [runD_r, startE, m_law_minus, mulD_i (bg_mul h2 h5), mulD_i (bg_mul h4 h3), mulD_i (bg_mul h3 h5), hr]⟩
  · cases h
theorem sem_less : ∀ cs c outs, S_less cs = .ok (c, outs) → cs.length = 2 ∧ runD 2 m_law_less cs = .ok (c, outs) := by
  intro cs c outs h
  unfold S_less at h
  split at h
  · rename_i a b c d
    obtain ⟨⟨h2, h3, h4, h5⟩, h⟩ := ite_ok h
    cases h
    exact ⟨rfl, by simp [runD_r, startE, m_law_less, mulD_i (bg_mul h2 h5), mulD_i (bg_mul h4 h3)]⟩
  · cases h
theorem sem_compare : ∀ cs c outs, S_compare cs = .ok (c, outs) → cs.length = 2 ∧ runD 3 m_compare cs = .ok (c, outs) := by
  intro cs c outs h
  unfold S_compare at h
  split at h
  · rename_i a b c d
    obtain ⟨⟨h2, h3, h4, h5⟩, h⟩ := ite_ok h
    cases h
    refine ⟨rfl, ?_⟩
    by_cases h0 : a * d - c * b = 0
    · simp [runD_r, startE, m_compare, mulD_i (bg_mul h2 h5), mulD_i (bg_mul h4 h3), h0]
    · by_cases h1 : c * b < a * d
      · simp [runD_r, startE, m_compare, mulD_i (bg_mul h2 h5), mulD_i (bg_mul h4 h3), h0, h1]
      · simp [runD_r, startE, m_compare, mulD_i (bg_mul h2 h5), mulD_i (bg_mul h4 h3), h0, h1]
  · cases h
end Sh

namespace Md
open PySem L2 DL PyProof.Rows
noncomputable def m_is_integer : En → Out :=
  (sRet (mAndV (mN (mIs "int" (mH (mN (mVar 0))))) (mN (mNotV (mN (mIs "bool" (mH (mN (mVar 0)))))))))
noncomputable def m_is_ratio (S_is_integer : Sf) : En → Out :=
  (sSeq (sIf (mOr (mNot (mTru (mH (mN (mIs "tuple" (mH (mN (mVar 0)))))))) (mBool (m2 neD (mH (mL lenD (aCons (mH (mN (mVar 0))) aNil))) (mH (mN (mC (.int 2))))))) (sRet (mN (mC (.bool false)))) sNext)
    (sSeq (sIf (mOr (mNot (mTru (mH (mCall S_is_integer (aCons (aD (mZ (m2 ixD (mH (mN (mVar 0))) (mH (mN (mC (.int 0))))))) aNil))))) (mNot (mTru (mH (mCall S_is_integer (aCons (aD (mZ (m2 ixD (mH (mN (mVar 0))) (mH (mN (mC (.int 1))))))) aNil)))))) (sRet (mN (mC (.bool false)))) sNext)
    (sRet (mAndV (m2 geD (mH (m2 ixD (mH (mN (mVar 0))) (mH (mN (mC (.int 1)))))) (mH (mN (mC (.int 1))))) (m2 eqD (mH (mL gcdD (aCons (mH (m2 ixD (mH (mN (mVar 0))) (mH (mN (mC (.int 0)))))) (aCons (mH (m2 ixD (mH (mN (mVar 0))) (mH (mN (mC (.int 1)))))) aNil)))) (mH (mN (mC (.int 1)))))))))
noncomputable def m_advanced_b1 : En → Out :=
  (sIf (mBool (m2 gtD (mH (mN (mVar 5))) (mH (mN (mC (.int 0)))))) (sAsgF 3 (mZ (mL minD (aCons (mH (mN (mVar 3))) (aCons (mH (m2 fdivD (mH (m2 subD (mH (mN (mVar 2))) (mH (mN (mVar 4))))) (mH (mN (mVar 5))))) aNil))))) sNext)
noncomputable def m_advanced : En → Out :=
  (sSeq (sFor (mZip (mVar 0) (mVar 1)) (tgT [(tgN 4), (tgN 5)]) m_advanced_b1)
    (sRet (mN (mTup (aCons (mZ (m2 addD (mH (m2 ixD (mH (mN (mVar 0))) (mH (mN (mC (.int 0)))))) (mH (m2 mulD (mH (mN (mVar 3))) (mH (m2 ixD (mH (mN (mVar 1))) (mH (mN (mC (.int 0)))))))))) (aCons (mZ (m2 addD (mH (m2 ixD (mH (mN (mVar 0))) (mH (mN (mC (.int 1)))))) (mH (m2 mulD (mH (mN (mVar 3))) (mH (m2 ixD (mH (mN (mVar 1))) (mH (mN (mC (.int 1)))))))))) aNil))))))
noncomputable def m_between_t1 : M Bool :=
  (mAnd (mBool (m2 leD (mH (m2 addD (mH (m2 ixD (mH (mN (mVar 4))) (mH (mN (mC (.int 0)))))) (mH (m2 ixD (mH (mN (mVar 5))) (mH (mN (mC (.int 0)))))))) (mH (mN (mVar 1))))) (mBool (m2 leD (mH (m2 addD (mH (m2 ixD (mH (mN (mVar 4))) (mH (mN (mC (.int 1)))))) (mH (m2 ixD (mH (mN (mVar 5))) (mH (mN (mC (.int 1)))))))) (mH (mN (mVar 1))))))
noncomputable def m_between_w1 (S_advanced : Sf) : En → Out :=
  (sSeq (sAsgF 6 (mZ (m2 subD (mH (m2 mulD (mH (mN (mVar 2))) (mH (m2 ixD (mH (mN (mVar 4))) (mH (mN (mC (.int 1)))))))) (mH (m2 mulD (mH (m2 ixD (mH (mN (mVar 4))) (mH (mN (mC (.int 0)))))) (mH (mN (mVar 3))))))))
    (sSeq (sAsgF 7 (mZ (m2 subD (mH (m2 mulD (mH (m2 ixD (mH (mN (mVar 5))) (mH (mN (mC (.int 0)))))) (mH (mN (mVar 3))))) (mH (m2 mulD (mH (mN (mVar 2))) (mH (m2 ixD (mH (mN (mVar 5))) (mH (mN (mC (.int 1)))))))))))
    (sIf (mBool (m2 gtD (mH (mN (mVar 6))) (mH (mN (mVar 7))))) (sAsgF 4 (mZ (mCall S_advanced (aCons (aD (mVar 4)) (aCons (aD (mVar 5)) (aCons (aD (mVar 1)) (aCons (aD (mZ (m2 fdivD (mH (mN (mVar 6))) (mH (mN (mVar 7)))))) aNil))))))) (sAsgF 5 (mZ (mCall S_advanced (aCons (aD (mVar 5)) (aCons (aD (mVar 4)) (aCons (aD (mVar 1)) (aCons (aD (mZ (m2 fdivD (mH (mN (mVar 7))) (mH (mN (mVar 6)))))) aNil))))))))))
noncomputable def m_between (S_advanced : Sf) : En → Out :=
  (sSeq (sTgt (tgT [(tgN 2), (tgN 3)]) (mVar 0))
    (sSeq (sIf (mAnd (mBool (m2 leD (mH (mN (mVar 2))) (mH (mN (mVar 1))))) (mBool (m2 leD (mH (mN (mVar 3))) (mH (mN (mVar 1)))))) (sRet (mN (mTup (aCons (mC (.str "between")) (aCons (mTup (aCons (mVar 2) (aCons (mVar 3) aNil))) (aCons (mTup (aCons (mVar 2) (aCons (mVar 3) aNil))) aNil)))))) sNext)
    (sSeq (sTgt (tgT [(tgN 4), (tgN 5)]) (mTup (aCons (mTup (aCons (mC (.int 0)) (aCons (mC (.int 1)) aNil))) (aCons (mTup (aCons (mC (.int 1)) (aCons (mC (.int 0)) aNil))) aNil))))
    (sSeq (sWhile m_between_t1 (m_between_w1 S_advanced))
    (sSeq (sIf (mBool (m2 eqD (mH (m2 ixD (mH (mN (mVar 5))) (mH (mN (mC (.int 1)))))) (mH (mN (mC (.int 0)))))) (sRet (mN (mTup (aCons (mC (.str "between")) (aCons (mVar 4) (aCons (mC .none) aNil)))))) sNext)
    (sRet (mN (mTup (aCons (mC (.str "between")) (aCons (mVar 4) (aCons (mVar 5) aNil)))))))))))
noncomputable def m_below (S_between : Sf) : En → Out :=
  (sRet (m2 ixD (mH (mCall S_between (aCons (aD (mVar 0)) (aCons (aD (mVar 1)) aNil)))) (mH (mN (mC (.int 1))))))
noncomputable def m_above (S_between : Sf) : En → Out :=
  (sRet (m2 ixD (mH (mCall S_between (aCons (aD (mVar 0)) (aCons (aD (mVar 1)) aNil)))) (mH (mN (mC (.int 2))))))
noncomputable def m_is_within (S_is_ratio : Sf) : En → Out :=
  (sRet (mAndV (mCall S_is_ratio (aCons (aD (mVar 0)) aNil)) (mAndV (mChain leD leD (mH (mN (mC (.int 0)))) (mH (m2 ixD (mH (mN (mVar 0))) (mH (mN (mC (.int 0)))))) (mH (mN (mVar 1)))) (m2 leD (mH (m2 ixD (mH (mN (mVar 0))) (mH (mN (mC (.int 1)))))) (mH (mN (mVar 1)))))))
noncomputable def m_is_between (S_is_within S_compare : Sf) : En → Out :=
  (sSeq (sIf (mOr (mNot (mTru (mH (mN (mIs "tuple" (mH (mN (mVar 0)))))))) (mOr (mBool (m2 neD (mH (mL lenD (aCons (mH (mN (mVar 0))) aNil))) (mH (mN (mC (.int 3)))))) (mBool (m2 neD (mH (m2 ixD (mH (mN (mVar 0))) (mH (mN (mC (.int 0)))))) (mH (mN (mC (.str "between")))))))) (sRet (mN (mC (.bool false)))) sNext)
    (sSeq (sParN 3 4 (mN (mZ (m2 ixD (mH (mN (mVar 0))) (mH (mN (mC (.int 1))))))) (mN (mZ (m2 ixD (mH (mN (mVar 0))) (mH (mN (mC (.int 2))))))))
    (sSeq (sIf (mNot (mTru (mH (mCall S_is_within (aCons (aD (mVar 3)) (aCons (aD (mVar 2)) aNil)))))) (sRet (mN (mC (.bool false)))) sNext)
    (sSeq (sIf (mBool (m2 isD (mH (mN (mVar 4))) (mH (mN (mC .none))))) (sRet (mAndV (m2 gtD (mH (mCall S_compare (aCons (aD (mVar 1)) (aCons (aD (mTup (aCons (mVar 2) (aCons (mC (.int 1)) aNil)))) aNil)))) (mH (mN (mC (.int 0))))) (m2 eqD (mH (mN (mVar 3))) (mH (mN (mTup (aCons (mVar 2) (aCons (mC (.int 1)) aNil)))))))) sNext)
    (sSeq (sIf (mNot (mTru (mH (mCall S_is_within (aCons (aD (mVar 4)) (aCons (aD (mVar 2)) aNil)))))) (sRet (mN (mC (.bool false)))) sNext)
    (sSeq (sIf (mBool (m2 eqD (mH (mN (mVar 3))) (mH (mN (mVar 4))))) (sRet (m2 eqD (mH (mCall S_compare (aCons (aD (mVar 3)) (aCons (aD (mVar 1)) aNil)))) (mH (mN (mC (.int 0)))))) sNext)
    (sSeq (sIf (mOr (mBool (m2 geD (mH (mCall S_compare (aCons (aD (mVar 3)) (aCons (aD (mVar 1)) aNil)))) (mH (mN (mC (.int 0)))))) (mBool (m2 geD (mH (mCall S_compare (aCons (aD (mVar 1)) (aCons (aD (mVar 4)) aNil)))) (mH (mN (mC (.int 0))))))) (sRet (mN (mC (.bool false)))) sNext)
    (sSeq (sIf (mBool (m2 neD (mH (m2 subD (mH (m2 mulD (mH (m2 ixD (mH (mN (mVar 4))) (mH (mN (mC (.int 0)))))) (mH (m2 ixD (mH (mN (mVar 3))) (mH (mN (mC (.int 1)))))))) (mH (m2 mulD (mH (m2 ixD (mH (mN (mVar 3))) (mH (mN (mC (.int 0)))))) (mH (m2 ixD (mH (mN (mVar 4))) (mH (mN (mC (.int 1)))))))))) (mH (mN (mC (.int 1)))))) (sRet (mN (mC (.bool false)))) sNext)
    (sRet (mOrV (m2 gtD (mH (m2 addD (mH (m2 ixD (mH (mN (mVar 3))) (mH (mN (mC (.int 0)))))) (mH (m2 ixD (mH (mN (mVar 4))) (mH (mN (mC (.int 0)))))))) (mH (mN (mVar 2)))) (m2 gtD (mH (m2 addD (mH (m2 ixD (mH (mN (mVar 3))) (mH (mN (mC (.int 1)))))) (mH (m2 ixD (mH (mN (mVar 4))) (mH (mN (mC (.int 1)))))))) (mH (mN (mVar 2))))))))))))))
noncomputable def m_nearest (S_between S_compare S_minus : Sf) : En → Out :=
  (sSeq (sAsgF 2 (mZ (mCall S_between (aCons (aD (mVar 0)) (aCons (aD (mVar 1)) aNil)))))
    (sSeq (sParN 3 4 (mN (mZ (m2 ixD (mH (mN (mVar 2))) (mH (mN (mC (.int 1))))))) (mN (mZ (m2 ixD (mH (mN (mVar 2))) (mH (mN (mC (.int 2))))))))
    (sSeq (sIf (mOr (mBool (m2 isD (mH (mN (mVar 4))) (mH (mN (mC .none))))) (mBool (m2 leD (mH (mCall S_compare (aCons (aD (mZ (mCall S_minus (aCons (aD (mVar 0)) (aCons (aD (mVar 3)) aNil))))) (aCons (aD (mZ (mCall S_minus (aCons (aD (mVar 4)) (aCons (aD (mVar 0)) aNil))))) aNil)))) (mH (mN (mC (.int 0))))))) (sRet (mN (mVar 3))) sNext)
    (sRet (mN (mVar 4))))))
noncomputable def m_law_pick (S_law_draw : Sf) : En → Out :=
  (sRet (m2 ixD (mH (mN (mVar 1))) (mH (m2 modD (mH (mL intD (aCons (mH (mCall S_law_draw (aCons (aS 0) (aCons (aD (mC (.int 900))) aNil)))) aNil))) (mH (mL lenD (aCons (mH (mN (mVar 1))) aNil)))))))
noncomputable def m_law_right_2f3bd5 (S_law_like S_law_is_within S_law_less : Sf) : En → Out :=
  (sSeq (sIf (mOr (mNot (mTru (mH (mN (mIs "tuple" (mH (mN (mVar 2)))))))) (mOr (mBool (m2 neD (mH (mL lenD (aCons (mH (mN (mVar 2))) aNil))) (mH (mN (mC (.int 3)))))) (mOr (mNot (mTru (mH (mCall S_law_like (aCons (aD (mZ (m2 ixD (mH (mN (mVar 2))) (mH (mN (mC (.int 0))))))) (aCons (aD (mC (.str "between"))) aNil)))))) (mNot (mTru (mH (mCall S_law_is_within (aCons (aD (mZ (m2 ixD (mH (mN (mVar 2))) (mH (mN (mC (.int 1))))))) (aCons (aD (mVar 1)) aNil))))))))) (sRet (mN (mC (.bool false)))) sNext)
    (sSeq (sIf (mBool (m2 isD (mH (m2 ixD (mH (mN (mVar 2))) (mH (mN (mC (.int 2)))))) (mH (mN (mC .none))))) (sRet (mAndV (mCall S_law_less (aCons (aD (mTup (aCons (mVar 1) (aCons (mC (.int 1)) aNil)))) (aCons (aD (mVar 0)) aNil))) (m2 eqD (mH (m2 ixD (mH (mN (mVar 2))) (mH (mN (mC (.int 1)))))) (mH (mN (mTup (aCons (mVar 1) (aCons (mC (.int 1)) aNil)))))))) sNext)
    (sSeq (sIf (mNot (mTru (mH (mCall S_law_is_within (aCons (aD (mZ (m2 ixD (mH (mN (mVar 2))) (mH (mN (mC (.int 2))))))) (aCons (aD (mVar 1)) aNil)))))) (sRet (mN (mC (.bool false)))) sNext)
    (sSeq (sIf (mAnd (mBool (m2 eqD (mH (m2 ixD (mH (mN (mVar 2))) (mH (mN (mC (.int 1)))))) (mH (mN (mVar 0))))) (mBool (m2 eqD (mH (m2 ixD (mH (mN (mVar 2))) (mH (mN (mC (.int 2)))))) (mH (mN (mVar 0)))))) (sRet (mN (mC (.bool true)))) sNext)
    (sSeq (sTgt (tgT [(tgT [(tgN 3), (tgN 4)]), (tgT [(tgN 5), (tgN 6)])]) (mTup (aCons (mZ (m2 ixD (mH (mN (mVar 2))) (mH (mN (mC (.int 1)))))) (aCons (mZ (m2 ixD (mH (mN (mVar 2))) (mH (mN (mC (.int 2)))))) aNil))))
    (sRet (mAndV (mCall S_law_less (aCons (aD (mZ (m2 ixD (mH (mN (mVar 2))) (mH (mN (mC (.int 1))))))) (aCons (aD (mVar 0)) aNil))) (mAndV (mCall S_law_less (aCons (aD (mVar 0)) (aCons (aD (mZ (m2 ixD (mH (mN (mVar 2))) (mH (mN (mC (.int 2))))))) aNil))) (mAndV (m2 eqD (mH (m2 subD (mH (m2 mulD (mH (mN (mVar 5))) (mH (mN (mVar 4))))) (mH (m2 mulD (mH (mN (mVar 3))) (mH (mN (mVar 6))))))) (mH (mN (mC (.int 1))))) (mOrV (m2 gtD (mH (m2 addD (mH (mN (mVar 3))) (mH (mN (mVar 5))))) (mH (mN (mVar 1)))) (m2 gtD (mH (m2 addD (mH (mN (mVar 4))) (mH (mN (mVar 6))))) (mH (mN (mVar 1))))))))))))))
noncomputable def m_law_is_within (S_law_number S_law_gcd : Sf) : En → Out :=
  (sRet (mAndV (mN (mIs "tuple" (mH (mN (mVar 0))))) (mAndV (m2 eqD (mH (mL lenD (aCons (mH (mN (mVar 0))) aNil))) (mH (mN (mC (.int 2))))) (mAndV (mCall S_law_number (aCons (aD (mZ (m2 ixD (mH (mN (mVar 0))) (mH (mN (mC (.int 0))))))) (aCons (aD (mC (.int 0))) (aCons (aD (mVar 1)) aNil)))) (mAndV (mCall S_law_number (aCons (aD (mZ (m2 ixD (mH (mN (mVar 0))) (mH (mN (mC (.int 1))))))) (aCons (aD (mC (.int 1))) (aCons (aD (mVar 1)) aNil)))) (m2 eqD (mH (mCall S_law_gcd (aCons (aD (mZ (m2 ixD (mH (mN (mVar 0))) (mH (mN (mC (.int 0))))))) (aCons (aD (mZ (m2 ixD (mH (mN (mVar 0))) (mH (mN (mC (.int 1))))))) aNil)))) (mH (mN (mC (.int 1))))))))))
noncomputable def m_law_tried_b1 (S_law_less S_law_ratio : Sf) : En → Out :=
  (sSeq (sAsgF 5 (mZ (mL minD (aCons (mH (mN (mVar 1))) (aCons (mH (m2 fdivD (mH (m2 mulD (mH (m2 ixD (mH (mN (mVar 0))) (mH (mN (mC (.int 0)))))) (mH (mN (mVar 4))))) (mH (m2 ixD (mH (mN (mVar 0))) (mH (mN (mC (.int 1)))))))) aNil)))))
    (sSeq (sIf (mTru (mH (mCall S_law_less (aCons (aD (mVar 2)) (aCons (aD (mTup (aCons (mVar 5) (aCons (mVar 4) aNil)))) aNil))))) (sAsgF 2 (mZ (mCall S_law_ratio (aCons (aD (mVar 5)) (aCons (aD (mVar 4)) aNil))))) sNext)
    (sSeq (sAsgF 5 (mZ (m2 subD (mH (mN (mC (.int 0)))) (mH (m2 fdivD (mH (m2 subD (mH (mN (mC (.int 0)))) (mH (m2 mulD (mH (m2 ixD (mH (mN (mVar 0))) (mH (mN (mC (.int 0)))))) (mH (mN (mVar 4))))))) (mH (m2 ixD (mH (mN (mVar 0))) (mH (mN (mC (.int 1)))))))))))
    (sIf (mAnd (mBool (m2 leD (mH (mN (mVar 5))) (mH (mN (mVar 1))))) (mOr (mBool (m2 isD (mH (mN (mVar 3))) (mH (mN (mC .none))))) (mTru (mH (mCall S_law_less (aCons (aD (mTup (aCons (mVar 5) (aCons (mVar 4) aNil)))) (aCons (aD (mVar 3)) aNil))))))) (sAsgF 3 (mZ (mCall S_law_ratio (aCons (aD (mVar 5)) (aCons (aD (mVar 4)) aNil))))) sNext))))
noncomputable def m_law_tried (S_law_less S_law_ratio : Sf) : En → Out :=
  (sSeq (sTgt (tgT [(tgN 2), (tgN 3)]) (mTup (aCons (mTup (aCons (mC (.int 0)) (aCons (mC (.int 1)) aNil))) (aCons (mC .none) aNil))))
    (sSeq (sFor (mRng2 (aCons (mC (.int 1)) (aCons (mZ (m2 addD (mH (mN (mVar 1))) (mH (mN (mC (.int 1)))))) aNil))) (tgN 4) (m_law_tried_b1 S_law_less S_law_ratio))
    (sRet (mLst (aCons (mVar 2) (aCons (mVar 3) aNil))))))
noncomputable def m_law_near (S_law_less S_law_minus : Sf) : En → Out :=
  (sSeq (sIf (mBool (m2 isD (mH (mN (mVar 2))) (mH (mN (mC .none))))) (sRet (mN (mVar 1))) sNext)
    (sRet (mIf (mTru (mH (mCall S_law_less (aCons (aD (mZ (mCall S_law_minus (aCons (aD (mVar 2)) (aCons (aD (mVar 0)) aNil))))) (aCons (aD (mZ (mCall S_law_minus (aCons (aD (mVar 0)) (aCons (aD (mVar 1)) aNil))))) aNil))))) (mN (mVar 2)) (mN (mVar 1)))))
noncomputable def m_law_b55304_b1 (S_law_like S_law_right S_is_between : Sf) : En → Out :=
  (sIf (mNot (mTru (mH (mCall S_law_like (aCons (aD (mZ (mCall S_is_between (aCons (aD (mVar 10)) (aCons (aD (mVar 4)) (aCons (aD (mVar 3)) aNil)))))) (aCons (aD (mZ (mCall S_law_right (aCons (aD (mVar 4)) (aCons (aD (mVar 3)) (aCons (aD (mVar 10)) aNil)))))) aNil)))))) (sRet (mN (mC (.bool false)))) sNext)
noncomputable def m_law_b55304_b2 (S_law_draw S_law_pick S_law_ratio S_law_tried S_law_like S_below S_above S_nearest S_law_near S_between S_law_right S_is_between : Sf) : En → Out :=
  (sSeq (sAsgF 3 (mZ (m2 addD (mH (mN (mC (.int 1)))) (mH (mCall S_law_draw (aCons (aS 1) (aCons (aD (mZ (mCall S_law_pick (aCons (aS 1) (aCons (aD (mZ (mLst (aCons (mC (.int 3)) (aCons (mC (.int 20)) (aCons (mC (.int 60)) aNil)))))) aNil))))) aNil)))))))
    (sSeq (sAsgF 4 (mZ (mCall S_law_ratio (aCons (aD (mZ (mCall S_law_draw (aCons (aS 1) (aCons (aD (mC (.int 900))) aNil))))) (aCons (aD (mZ (m2 addD (mH (mN (mC (.int 1)))) (mH (mCall S_law_draw (aCons (aS 1) (aCons (aD (mZ (mCall S_law_pick (aCons (aS 1) (aCons (aD (mZ (mLst (aCons (mC (.int 5)) (aCons (mC (.int 60)) (aCons (mC (.int 900)) aNil)))))) aNil))))) aNil))))))) aNil)))))
    (sSeq (sTgt (tgL [(tgN 5), (tgN 6)]) (mZ (mCall S_law_tried (aCons (aD (mVar 4)) (aCons (aD (mVar 3)) aNil)))))
    (sSeq (sIf (mOr (mNot (mTru (mH (mCall S_law_like (aCons (aD (mZ (mCall S_below (aCons (aD (mVar 4)) (aCons (aD (mVar 3)) aNil))))) (aCons (aD (mVar 5)) aNil)))))) (mOr (mNot (mTru (mH (mCall S_law_like (aCons (aD (mZ (mCall S_above (aCons (aD (mVar 4)) (aCons (aD (mVar 3)) aNil))))) (aCons (aD (mVar 6)) aNil)))))) (mNot (mTru (mH (mCall S_law_like (aCons (aD (mZ (mCall S_nearest (aCons (aD (mVar 4)) (aCons (aD (mVar 3)) aNil))))) (aCons (aD (mZ (mCall S_law_near (aCons (aD (mVar 4)) (aCons (aD (mVar 5)) (aCons (aD (mVar 6)) aNil)))))) aNil)))))))) (sRet (mN (mC (.bool false)))) sNext)
    (sSeq (sAsgF 7 (mZ (mCall S_between (aCons (aD (mVar 4)) (aCons (aD (mVar 3)) aNil)))))
    (sSeq (sIf (mOr (mNot (mTru (mH (mCall S_law_right (aCons (aD (mVar 4)) (aCons (aD (mVar 3)) (aCons (aD (mVar 7)) aNil))))))) (mBool (m2 isntD (mH (mCall S_is_between (aCons (aD (mVar 7)) (aCons (aD (mVar 4)) (aCons (aD (mVar 3)) aNil))))) (mH (mN (mC (.bool true))))))) (sRet (mN (mC (.bool false)))) sNext)
    (sSeq (sAsgF 8 (mZ (mCall S_law_near (aCons (aD (mVar 4)) (aCons (aD (mVar 5)) (aCons (aD (mVar 6)) aNil))))))
    (sSeq (sAsgF 9 (mZ (mLst (aCons (mTup (aCons (mC (.str "between")) (aCons (mTup (aCons (mZ (mL maxD (aCons (mH (mN (mC (.int 0)))) (aCons (mH (m2 subD (mH (m2 ixD (mH (mN (mVar 8))) (mH (mN (mC (.int 0)))))) (mH (mN (mC (.int 1)))))) aNil)))) (aCons (mC (.int 1)) aNil))) (aCons (mVar 8) aNil)))) (aCons (mTup (aCons (mC (.str "between")) (aCons (mVar 8) (aCons (mTup (aCons (mZ (m2 addD (mH (m2 ixD (mH (mN (mVar 8))) (mH (mN (mC (.int 0)))))) (mH (mN (mC (.int 1)))))) (aCons (mZ (m2 ixD (mH (mN (mVar 8))) (mH (mN (mC (.int 1)))))) aNil))) aNil)))) aNil)))))
    (sSeq (sAsgF 9 (mZ (m2 addD (mH (mN (mVar 9))) (mH (mLst (aCons (mTup (aCons (mC (.str "between")) (aCons (mVar 5) (aCons (mVar 5) aNil)))) (aCons (mTup (aCons (mC (.str "between")) (aCons (mVar 6) (aCons (mVar 6) aNil)))) (aCons (mTup (aCons (mC (.str "between")) (aCons (mTup (aCons (mC (.int 0)) (aCons (mC (.int 1)) aNil))) (aCons (mVar 6) aNil)))) (aCons (mTup (aCons (mC (.str "between")) (aCons (mVar 5) (aCons (mC .none) aNil)))) (aCons (mTup (aCons (mC (.str "between")) (aCons (mVar 5) (aCons (mTup (aCons (mVar 3) (aCons (mC (.int 1)) aNil))) aNil)))) aNil))))))))))
    (sFor (mSeqA (mZ (m2 addD (mH (mN (mVar 9))) (mH (mLst (aCons (mZ (mSlice (mH (mN (mVar 7))) mO0 (mO1 (mC (.int 2))))) (aCons (mZ (mSlice (mH (mN (mVar 7))) (mO1 (mC (.int 1))) mO0)) (aCons (mC .none) (aCons (mTup (aCons (mC (.str "between")) (aCons (mZ (m2 ixD (mH (mN (mVar 7))) (mH (mN (mC (.int 2)))))) (aCons (mZ (m2 ixD (mH (mN (mVar 7))) (mH (mN (mC (.int 1)))))) aNil)))) aNil))))))))) (tgN 10) (m_law_b55304_b1 S_law_like S_law_right S_is_between)))))))))))
noncomputable def m_law_b55304_b3 (S_law_draw : Sf) : En → Out :=
  (sAsgF 11 (mZ (m2 addD (mH (m2 mulD (mH (mN (mVar 11))) (mH (mN (mC (.int 997)))))) (mH (mCall S_law_draw (aCons (aS 1) (aCons (aD (mC (.int 900))) aNil)))))))
noncomputable def m_law_b55304_b4 (S_law_draw : Sf) : En → Out :=
  (sAsgF 13 (mZ (m2 addD (mH (m2 mulD (mH (mN (mVar 13))) (mH (mN (mC (.int 991)))))) (mH (mCall S_law_draw (aCons (aS 1) (aCons (aD (mC (.int 900))) aNil)))))))
noncomputable def m_law_b55304_b5 (S_law_draw : Sf) : En → Out :=
  (sAsgF 3 (mZ (m2 addD (mH (m2 addD (mH (m2 mulD (mH (mN (mVar 3))) (mH (mN (mC (.int 1000)))))) (mH (mN (mC (.int 1)))))) (mH (mCall S_law_draw (aCons (aS 1) (aCons (aD (mC (.int 900))) aNil)))))))
noncomputable def m_law_b55304 (S_law_digits S_law_draw S_law_pick S_law_ratio S_law_tried S_law_like S_below S_above S_nearest S_law_near S_between S_law_right S_is_between : Sf) : En → Out :=
  (sSeq (sAsg 1 (mLst (aCons (mZ (mCall S_law_digits (aCons (aD (mVar 0)) (aCons (aD (mC (.int 0))) (aCons (aD (mC (.int 63))) aNil))))) (aCons (mC (.int 0)) aNil))))
    (sSeq (sFor (mRng1 (aCons (mC (.int 4)) aNil)) (tgN 2) (m_law_b55304_b2 S_law_draw S_law_pick S_law_ratio S_law_tried S_law_like S_below S_above S_nearest S_law_near S_between S_law_right S_is_between))
    (sSeq (sAsgF 11 (mC (.int 1)))
    (sSeq (sFor (mRng1 (aCons (mZ (m2 addD (mH (mN (mC (.int 2)))) (mH (mCall S_law_draw (aCons (aS 1) (aCons (aD (mC (.int 9))) aNil)))))) aNil)) (tgN 12) (m_law_b55304_b3 S_law_draw))
    (sSeq (sAsgF 13 (mC (.int 1)))
    (sSeq (sFor (mRng1 (aCons (mZ (m2 addD (mH (mN (mC (.int 2)))) (mH (mCall S_law_draw (aCons (aS 1) (aCons (aD (mC (.int 9))) aNil)))))) aNil)) (tgN 12) (m_law_b55304_b4 S_law_draw))
    (sSeq (sAsgF 3 (mZ (mCall S_law_draw (aCons (aS 1) (aCons (aD (mC (.int 900))) aNil)))))
    (sSeq (sFor (mRng1 (aCons (mZ (mCall S_law_draw (aCons (aS 1) (aCons (aD (mC (.int 9))) aNil)))) aNil)) (tgN 12) (m_law_b55304_b5 S_law_draw))
    (sSeq (sAsgF 3 (mZ (m2 addD (mH (mN (mVar 3))) (mH (mN (mC (.int 1)))))))
    (sSeq (sAsgF 4 (mZ (mCall S_law_ratio (aCons (aD (mVar 11)) (aCons (aD (mVar 13)) aNil)))))
    (sSeq (sAsgF 7 (mZ (mCall S_between (aCons (aD (mVar 4)) (aCons (aD (mVar 3)) aNil)))))
    (sRet (mAndV (mCall S_law_right (aCons (aD (mVar 4)) (aCons (aD (mVar 3)) (aCons (aD (mVar 7)) aNil)))) (mAndV (mCall S_law_like (aCons (aD (mTup (aCons (mZ (mCall S_below (aCons (aD (mVar 4)) (aCons (aD (mVar 3)) aNil)))) (aCons (mZ (mCall S_above (aCons (aD (mVar 4)) (aCons (aD (mVar 3)) aNil)))) aNil)))) (aCons (aD (mZ (mSlice (mH (mN (mVar 7))) (mO1 (mC (.int 1))) mO0))) aNil))) (m2 isD (mH (mCall S_is_between (aCons (aD (mVar 7)) (aCons (aD (mVar 4)) (aCons (aD (mVar 3)) aNil))))) (mH (mN (mC (.bool true)))))))))))))))))))
end Md
namespace Lk13
open PySem L2 DL PyProof.Rows Md
def topS (i : Nat) : Stmt := PySem.Challenge.pw_truewheel_k13_nearest_between.main.body.getD i (.Pass ⟨0, 0, 0, 0⟩)
structure Txt (mg : Str → Option Value) : Prop where
  b_abs : mg "abs" = none
  b_bool : mg "bool" = none
  i_gcd : mg "gcd" = some (.builtin "math.gcd")
  b_int : mg "int" = none
  b_isinstance : mg "isinstance" = none
  b_len : mg "len" = none
  b_max : mg "max" = none
  b_min : mg "min" = none
  b_range : mg "range" = none
  b_str : mg "str" = none
  b_tuple : mg "tuple" = none
  b_zip : mg "zip" = none
/-! is_integer -/
abbrev s_is_integer : Stmt := topS 2
abbrev N_is_integer : List Str := ["thing"]
abbrev p_is_integer : List Str := ["thing"]
theorem sc_is_integer : FnScope N_is_integer p_is_integer (defScope s_is_integer) := ⟨rfl, rfl, rfl, by decide +kernel, rfl, by decide +kernel, by decide +kernel⟩
/-! is_ratio -/
abbrev s_is_ratio : Stmt := topS 4
abbrev N_is_ratio : List Str := ["thing"]
abbrev p_is_ratio : List Str := ["thing"]
theorem sc_is_ratio : FnScope N_is_ratio p_is_ratio (defScope s_is_ratio) := ⟨rfl, rfl, rfl, by decide +kernel, rfl, by decide +kernel, by decide +kernel⟩
/-! ratio -/
abbrev s_ratio : Stmt := topS 5
abbrev N_ratio : List Str := ["a", "b", "common"]
abbrev p_ratio : List Str := ["a", "b"]
theorem sc_ratio : FnScope N_ratio p_ratio (defScope s_ratio) := ⟨rfl, rfl, rfl, by decide +kernel, rfl, by decide +kernel, by decide +kernel⟩
/-! minus -/
abbrev s_minus : Stmt := topS 6
abbrev N_minus : List Str := ["one", "other"]
abbrev p_minus : List Str := ["one", "other"]
theorem sc_minus : FnScope N_minus p_minus (defScope s_minus) := ⟨rfl, rfl, rfl, by decide +kernel, rfl, by decide +kernel, by decide +kernel⟩
/-! compare -/
abbrev s_compare : Stmt := topS 7
abbrev N_compare : List Str := ["one", "other", "apart"]
abbrev p_compare : List Str := ["one", "other"]
theorem sc_compare : FnScope N_compare p_compare (defScope s_compare) := ⟨rfl, rfl, rfl, by decide +kernel, rfl, by decide +kernel, by decide +kernel⟩
/-! advanced -/
abbrev s_advanced : Stmt := topS 9
abbrev N_advanced : List Str := ["one", "other", "n", "often", "part", "step"]
abbrev p_advanced : List Str := ["one", "other", "n", "often"]
theorem sc_advanced : FnScope N_advanced p_advanced (defScope s_advanced) := ⟨rfl, rfl, rfl, by decide +kernel, rfl, by decide +kernel, by decide +kernel⟩
/-! between -/
abbrev s_between : Stmt := topS 10
abbrev N_between : List Str := ["x", "n", "p", "q", "low", "high", "ahead", "behind"]
abbrev p_between : List Str := ["x", "n"]
theorem sc_between : FnScope N_between p_between (defScope s_between) := ⟨rfl, rfl, rfl, by decide +kernel, rfl, by decide +kernel, by decide +kernel⟩
/-! below -/
abbrev s_below : Stmt := topS 11
abbrev N_below : List Str := ["x", "n"]
abbrev p_below : List Str := ["x", "n"]
theorem sc_below : FnScope N_below p_below (defScope s_below) := ⟨rfl, rfl, rfl, by decide +kernel, rfl, by decide +kernel, by decide +kernel⟩
/-! above -/
abbrev s_above : Stmt := topS 12
abbrev N_above : List Str := ["x", "n"]
abbrev p_above : List Str := ["x", "n"]
theorem sc_above : FnScope N_above p_above (defScope s_above) := ⟨rfl, rfl, rfl, by decide +kernel, rfl, by decide +kernel, by decide +kernel⟩
/-! is_within -/
abbrev s_is_within : Stmt := topS 13
abbrev N_is_within : List Str := ["thing", "n"]
abbrev p_is_within : List Str := ["thing", "n"]
theorem sc_is_within : FnScope N_is_within p_is_within (defScope s_is_within) := ⟨rfl, rfl, rfl, by decide +kernel, rfl, by decide +kernel, by decide +kernel⟩
/-! is_between -/
abbrev s_is_between : Stmt := topS 14
abbrev N_is_between : List Str := ["paper", "x", "n", "low", "high"]
abbrev p_is_between : List Str := ["paper", "x", "n"]
theorem sc_is_between : FnScope N_is_between p_is_between (defScope s_is_between) := ⟨rfl, rfl, rfl, by decide +kernel, rfl, by decide +kernel, by decide +kernel⟩
/-! nearest -/
abbrev s_nearest : Stmt := topS 15
abbrev N_nearest : List Str := ["x", "n", "paper", "low", "high"]
abbrev p_nearest : List Str := ["x", "n"]
theorem sc_nearest : FnScope N_nearest p_nearest (defScope s_nearest) := ⟨rfl, rfl, rfl, by decide +kernel, rfl, by decide +kernel, by decide +kernel⟩
/-! _law_cell -/
abbrev s_law_cell : Stmt := topS 17
abbrev N_law_cell : List Str := ["script", "k"]
abbrev p_law_cell : List Str := ["script", "k"]
theorem sc_law_cell : FnScope N_law_cell p_law_cell (defScope s_law_cell) := ⟨rfl, rfl, rfl, by decide +kernel, rfl, by decide +kernel, by decide +kernel⟩
/-! _law_digits -/
abbrev s_law_digits : Stmt := topS 18
abbrev N_law_digits : List Str := ["script", "first", "last", "digits", "k", "cell", "turn", "seed"]
abbrev p_law_digits : List Str := ["script", "first", "last"]
theorem sc_law_digits : FnScope N_law_digits p_law_digits (defScope s_law_digits) := ⟨rfl, rfl, rfl, by decide +kernel, rfl, by decide +kernel, by decide +kernel⟩
/-! _law_draw -/
abbrev s_law_draw : Stmt := topS 19
abbrev N_law_draw : List Str := ["box", "many", "at"]
abbrev p_law_draw : List Str := ["box", "many"]
theorem sc_law_draw : FnScope N_law_draw p_law_draw (defScope s_law_draw) := ⟨rfl, rfl, rfl, by decide +kernel, rfl, by decide +kernel, by decide +kernel⟩
/-! _law_pick -/
abbrev s_law_pick : Stmt := topS 20
abbrev N_law_pick : List Str := ["box", "things"]
abbrev p_law_pick : List Str := ["box", "things"]
theorem sc_law_pick : FnScope N_law_pick p_law_pick (defScope s_law_pick) := ⟨rfl, rfl, rfl, by decide +kernel, rfl, by decide +kernel, by decide +kernel⟩
/-! _law_like -/
abbrev s_law_like : Stmt := topS 21
abbrev N_law_like : List Str := ["told", "due", "k"]
abbrev p_law_like : List Str := ["told", "due"]
theorem sc_law_like : FnScope N_law_like p_law_like (defScope s_law_like) := ⟨rfl, rfl, rfl, by decide +kernel, rfl, by decide +kernel, by decide +kernel⟩
/-! _law_number -/
abbrev s_law_number : Stmt := topS 22
abbrev N_law_number : List Str := ["thing", "low", "high"]
abbrev p_law_number : List Str := ["thing", "low", "high"]
theorem sc_law_number : FnScope N_law_number p_law_number (defScope s_law_number) := ⟨rfl, rfl, rfl, by decide +kernel, rfl, by decide +kernel, by decide +kernel⟩
/-! _law_gcd -/
abbrev s_law_gcd : Stmt := topS 23
abbrev N_law_gcd : List Str := ["one", "other", "turn"]
abbrev p_law_gcd : List Str := ["one", "other"]
theorem sc_law_gcd : FnScope N_law_gcd p_law_gcd (defScope s_law_gcd) := ⟨rfl, rfl, rfl, by decide +kernel, rfl, by decide +kernel, by decide +kernel⟩
/-! _law_ratio -/
abbrev s_law_ratio : Stmt := topS 24
abbrev N_law_ratio : List Str := ["a", "b", "step"]
abbrev p_law_ratio : List Str := ["a", "b"]
theorem sc_law_ratio : FnScope N_law_ratio p_law_ratio (defScope s_law_ratio) := ⟨rfl, rfl, rfl, by decide +kernel, rfl, by decide +kernel, by decide +kernel⟩
/-! _law_minus -/
abbrev s_law_minus : Stmt := topS 25
abbrev N_law_minus : List Str := ["one", "other"]
abbrev p_law_minus : List Str := ["one", "other"]
theorem sc_law_minus : FnScope N_law_minus p_law_minus (defScope s_law_minus) := ⟨rfl, rfl, rfl, by decide +kernel, rfl, by decide +kernel, by decide +kernel⟩
/-! _law_less -/
abbrev s_law_less : Stmt := topS 26
abbrev N_law_less : List Str := ["one", "other"]
abbrev p_law_less : List Str := ["one", "other"]
theorem sc_law_less : FnScope N_law_less p_law_less (defScope s_law_less) := ⟨rfl, rfl, rfl, by decide +kernel, rfl, by decide +kernel, by decide +kernel⟩
/-! _law_right -/
abbrev s_law_right : Stmt := topS 27
abbrev N_law_right : List Str := ["x", "n", "paper", "p", "q", "r", "s"]
abbrev p_law_right : List Str := ["x", "n", "paper"]
theorem sc_law_right : FnScope N_law_right p_law_right (defScope s_law_right) := ⟨rfl, rfl, rfl, by decide +kernel, rfl, by decide +kernel, by decide +kernel⟩
/-! _law_is_within -/
abbrev s_law_is_within : Stmt := topS 28
abbrev N_law_is_within : List Str := ["one", "n"]
abbrev p_law_is_within : List Str := ["one", "n"]
theorem sc_law_is_within : FnScope N_law_is_within p_law_is_within (defScope s_law_is_within) := ⟨rfl, rfl, rfl, by decide +kernel, rfl, by decide +kernel, by decide +kernel⟩
/-! _law_tried -/
abbrev s_law_tried : Stmt := topS 29
abbrev N_law_tried : List Str := ["x", "n", "low", "high", "q", "p"]
abbrev p_law_tried : List Str := ["x", "n"]
theorem sc_law_tried : FnScope N_law_tried p_law_tried (defScope s_law_tried) := ⟨rfl, rfl, rfl, by decide +kernel, rfl, by decide +kernel, by decide +kernel⟩
/-! _law_near -/
abbrev s_law_near : Stmt := topS 30
abbrev N_law_near : List Str := ["x", "low", "high"]
abbrev p_law_near : List Str := ["x", "low", "high"]
theorem sc_law_near : FnScope N_law_near p_law_near (defScope s_law_near) := ⟨rfl, rfl, rfl, by decide +kernel, rfl, by decide +kernel, by decide +kernel⟩
/-! law -/
abbrev s_law : Stmt := topS 31
abbrev N_law : List Str := ["script", "box", "turn", "n", "x", "low", "high", "told", "near", "spoilt", "paper", "a", "k", "b"]
abbrev p_law : List Str := ["script"]
theorem sc_law : FnScope N_law p_law (defScope s_law) := ⟨rfl, rfl, rfl, by decide +kernel, rfl, by decide +kernel, by decide +kernel⟩
section
variable {P : Program} {w : World} {K : PySem.W.Frag} {mg : Str → Option Value} {base : Heap}
theorem der_is_integer {f : Addr} {fd : FuncData} (A : At1 K mg "is_integer" s_is_integer p_is_integer f fd) (T : Txt mg) {k : Nat} {S : Sf} (hS : ∀ cs c outs, S cs = .ok (c, outs) → cs.length = 1 ∧ runD 1 m_is_integer cs = .ok (c, outs)) : DFn P w K mg base "is_integer" (k + 1) S :=
  dfn_ok A sc_is_integer (by decide) m_is_integer (fun cdv A outer s H E hr =>
    (pds_one (pds_ret (pn_and (pn_f (pf_isi tyOk_int (by rfl) T.b_isinstance (ph_f (pf_var (pv 0))) (by rfl) T.b_int bt_int)) (pn_one (pn_f (pf_not (pn_f (pf_isi tyOk_bool (by rfl) T.b_isinstance (ph_f (pf_var (pv 0))) (by rfl) T.b_bool bt_bool))))))))) hS
theorem der_is_ratio {f : Addr} {fd : FuncData} (A : At1 K mg "is_ratio" s_is_ratio p_is_ratio f fd) (T : Txt mg) {S_is_integer : Sf} {j_is_integer : Nat} (c_is_integer : DFn P w K mg base "is_integer" j_is_integer S_is_integer) {k : Nat} (h_is_integer : j_is_integer ≤ k) {S : Sf} (hS : ∀ cs c outs, S cs = .ok (c, outs) → cs.length = 1 ∧ runD 1 (m_is_ratio S_is_integer) cs = .ok (c, outs)) : DFn P w K mg base "is_ratio" (k + 1) S :=
  dfn_ok A sc_is_ratio (by decide) (m_is_ratio S_is_integer) (fun cdv A outer s H E hr =>
    (pds_cons (pds_if (ptd_w (pwd_or (ptd_not (ptd_tru (ph_n (pn_f (pf_isi tyOk_tuple (by rfl) T.b_isinstance (ph_f (pf_var (pv 0))) (by rfl) T.b_tuple bt_tuple))))) (pwd_or1 (ptd_cmp (op_neA (hu64 hr)) snd_ne (nomark _) (ph_n (pn_bi call_lenA snd_len (by rfl) T.b_len bt_len (pah_cons (ph_f (pf_var (pv 0))) pah_nil))) (ph_n (pn_f pf_int)))))) (pds_one (pds_ret (pn_f pf_bl))) pds_nil)
    (pds_cons (pds_if (ptd_w (pwd_or (ptd_not (ptd_tru (ph_n (pn_cd c_is_integer hr h_is_integer (by rfl) (pag_cons (pf_n (pn_ix ix_seq snd_ix (ph_f (pf_var (pv 0))) (ph_n (pn_f pf_int)) (fun _ _ => rfl))) pag_nil))))) (pwd_or1 (ptd_not (ptd_tru (ph_n (pn_cd c_is_integer hr h_is_integer (by rfl) (pag_cons (pf_n (pn_ix ix_seq snd_ix (ph_f (pf_var (pv 0))) (ph_n (pn_f pf_int)) (fun _ _ => rfl))) pag_nil)))))))) (pds_one (pds_ret (pn_f pf_bl))) pds_nil)
    (pds_one (pds_ret (pn_and (pn_cmp op_ge snd_ge (nomark _) (ph_n (pn_ix ix_seq snd_ix (ph_f (pf_var (pv 0))) (ph_n (pn_f pf_int)) (fun _ _ => rfl))) (ph_n (pn_f pf_int))) (pn_one (pn_cmp (op_eqA (hu64 hr)) snd_eq (nomark _) (ph_n (pn_fun cr_gcd snd_gcd (by rfl) T.i_gcd (pah_cons (ph_n (pn_ix ix_seq snd_ix (ph_f (pf_var (pv 0))) (ph_n (pn_f pf_int)) (fun _ _ => rfl))) (pah_cons (ph_n (pn_ix ix_seq snd_ix (ph_f (pf_var (pv 0))) (ph_n (pn_f pf_int)) (fun _ _ => rfl))) pah_nil)))) (ph_n (pn_f pf_int)))))))))) hS
theorem der_ratio {f : Addr} {fd : FuncData} (A : At1 K mg "ratio" s_ratio p_ratio f fd) (T : Txt mg) {k : Nat} {S : Sf} (hS : ∀ cs c outs, S cs = .ok (c, outs) → cs.length = 2 ∧ runD 3 m_ratio cs = .ok (c, outs)) : DFn P w K mg base "ratio" (k + 1) S :=
  dfn_ok A sc_ratio (by decide) m_ratio (fun cdv A outer s H E hr =>
    (pds_cons (pds_setF (i := 2) sc_ratio.nd rfl (.inl rfl) (pf_n (pn_fun cr_gcd snd_gcd (by rfl) T.i_gcd (pah_cons (ph_f (pf_var (pv 0))) (pah_cons (ph_f (pf_var (pv 1))) pah_nil)))))
    (pds_cons (pds_if (ptd_cmp op_ltA snd_lt (nomark _) (ph_f (pf_var (pv 1))) (ph_n (pn_f pf_int))) (pds_one (pds_setF (i := 2) sc_ratio.nd rfl (.inl rfl) (pf_n (pn_un un_neg snd_neg (ph_f (pf_var (pv 2))))))) pds_nil)
    (pds_one (pds_ret (pn_f (pf_tup (pad_cons (pf_n (pn_op op_fdivA snd_fdiv (ph_f (pf_var (pv 0))) (ph_f (pf_var (pv 2))))) (pad_cons (pf_n (pn_op op_fdivA snd_fdiv (ph_f (pf_var (pv 1))) (ph_f (pf_var (pv 2))))) pad_nil))))))))) hS
theorem der_minus {f : Addr} {fd : FuncData} (A : At1 K mg "minus" s_minus p_minus f fd) (T : Txt mg) {S_ratio : Sf} {j_ratio : Nat} (c_ratio : DFn P w K mg base "ratio" j_ratio S_ratio) {k : Nat} (h_ratio : j_ratio ≤ k) {S : Sf} (hS : ∀ cs c outs, S cs = .ok (c, outs) → cs.length = 2 ∧ runD 2 (m_minus S_ratio) cs = .ok (c, outs)) : DFn P w K mg base "minus" (k + 1) S :=
  dfn_ok A sc_minus (by decide) (m_minus S_ratio) (fun cdv A outer s H E hr =>
    (pds_one (pds_ret (pn_cd c_ratio hr h_ratio (by rfl) (pag_cons (pf_n (pn_op op_sub snd_sub (ph_n (pn_op op_mulA snd_mul (ph_n (pn_ix ix_seq snd_ix (ph_f (pf_var (pv 0))) (ph_n (pn_f pf_int)) (fun _ _ => rfl))) (ph_n (pn_ix ix_seq snd_ix (ph_f (pf_var (pv 1))) (ph_n (pn_f pf_int)) (fun _ _ => rfl))))) (ph_n (pn_op op_mulA snd_mul (ph_n (pn_ix ix_seq snd_ix (ph_f (pf_var (pv 1))) (ph_n (pn_f pf_int)) (fun _ _ => rfl))) (ph_n (pn_ix ix_seq snd_ix (ph_f (pf_var (pv 0))) (ph_n (pn_f pf_int)) (fun _ _ => rfl))))))) (pag_cons (pf_n (pn_op op_mulA snd_mul (ph_n (pn_ix ix_seq snd_ix (ph_f (pf_var (pv 0))) (ph_n (pn_f pf_int)) (fun _ _ => rfl))) (ph_n (pn_ix ix_seq snd_ix (ph_f (pf_var (pv 1))) (ph_n (pn_f pf_int)) (fun _ _ => rfl))))) pag_nil)))))) hS
theorem der_compare {f : Addr} {fd : FuncData} (A : At1 K mg "compare" s_compare p_compare f fd) (T : Txt mg) {k : Nat} {S : Sf} (hS : ∀ cs c outs, S cs = .ok (c, outs) → cs.length = 2 ∧ runD 3 m_compare cs = .ok (c, outs)) : DFn P w K mg base "compare" (k + 1) S :=
  dfn_ok A sc_compare (by decide) m_compare (fun cdv A outer s H E hr =>
    (pds_cons (pds_setF (i := 2) sc_compare.nd rfl (.inl rfl) (pf_n (pn_op op_sub snd_sub (ph_n (pn_op op_mulA snd_mul (ph_n (pn_ix ix_seq snd_ix (ph_f (pf_var (pv 0))) (ph_n (pn_f pf_int)) (fun _ _ => rfl))) (ph_n (pn_ix ix_seq snd_ix (ph_f (pf_var (pv 1))) (ph_n (pn_f pf_int)) (fun _ _ => rfl))))) (ph_n (pn_op op_mulA snd_mul (ph_n (pn_ix ix_seq snd_ix (ph_f (pf_var (pv 1))) (ph_n (pn_f pf_int)) (fun _ _ => rfl))) (ph_n (pn_ix ix_seq snd_ix (ph_f (pf_var (pv 0))) (ph_n (pn_f pf_int)) (fun _ _ => rfl))))))))
    (pds_cons (pds_if (ptd_cmp (op_eqA (hu64 hr)) snd_eq (nomark _) (ph_f (pf_var (pv 2))) (ph_n (pn_f pf_int))) (pds_one (pds_ret (pn_f pf_int))) pds_nil)
    (pds_one (pds_ret (pn_if (ptd_cmp op_gt snd_gt (nomark _) (ph_f (pf_var (pv 2))) (ph_n (pn_f pf_int))) (pn_f pf_int) (pn_un un_neg snd_neg (ph_n (pn_f pf_int))))))))) hS
theorem der_advanced {f : Addr} {fd : FuncData} (A : At1 K mg "advanced" s_advanced p_advanced f fd) (T : Txt mg) {k : Nat} {S : Sf} (hS : ∀ cs c outs, S cs = .ok (c, outs) → cs.length = 4 ∧ runD 6 m_advanced cs = .ok (c, outs)) : DFn P w K mg base "advanced" (k + 1) S :=
  dfn_ok A sc_advanced (by decide) m_advanced (fun cdv A outer s H E hr =>
    (pds_cons (pds_for PassesOwn.never rfl (pid_zip (by rfl) T.b_zip (pad_cons (pf_var (pv 0)) (pad_cons (pf_var (pv 1)) pad_nil))) (pgd_tup rfl (pgds_cons (pgd_name (i := 4) sc_advanced.nd rfl (.inl rfl)) (pgds_cons (pgd_name (i := 5) sc_advanced.nd rfl (.inl rfl)) pgds_nil)) rfl) (pds_one (pds_if (ptd_cmp op_gt snd_gt (nomark _) (ph_f (pf_var (pv 5))) (ph_n (pn_f pf_int))) (pds_one (pds_setF (i := 3) sc_advanced.nd rfl (.inl rfl) (pf_n (pn_bi (call_minA rfl) snd_min (by rfl) T.b_min bt_min (pah_cons (ph_f (pf_var (pv 3))) (pah_cons (ph_n (pn_op op_fdivA snd_fdiv (ph_n (pn_op op_sub snd_sub (ph_f (pf_var (pv 2))) (ph_f (pf_var (pv 4))))) (ph_f (pf_var (pv 5))))) pah_nil)))))) pds_nil)))
    (pds_one (pds_ret (pn_f (pf_tup (pad_cons (pf_n (pn_op op_addA snd_add (ph_n (pn_ix ix_seq snd_ix (ph_f (pf_var (pv 0))) (ph_n (pn_f pf_int)) (fun _ _ => rfl))) (ph_n (pn_op op_mulA snd_mul (ph_f (pf_var (pv 3))) (ph_n (pn_ix ix_seq snd_ix (ph_f (pf_var (pv 1))) (ph_n (pn_f pf_int)) (fun _ _ => rfl))))))) (pad_cons (pf_n (pn_op op_addA snd_add (ph_n (pn_ix ix_seq snd_ix (ph_f (pf_var (pv 0))) (ph_n (pn_f pf_int)) (fun _ _ => rfl))) (ph_n (pn_op op_mulA snd_mul (ph_f (pf_var (pv 3))) (ph_n (pn_ix ix_seq snd_ix (ph_f (pf_var (pv 1))) (ph_n (pn_f pf_int)) (fun _ _ => rfl))))))) pad_nil)))))))) hS
theorem der_between {f : Addr} {fd : FuncData} (A : At1 K mg "between" s_between p_between f fd) (T : Txt mg) {S_advanced : Sf} {j_advanced : Nat} (c_advanced : DFn P w K mg base "advanced" j_advanced S_advanced) {k : Nat} (h_advanced : j_advanced ≤ k) {S : Sf} (hS : ∀ cs c outs, S cs = .ok (c, outs) → cs.length = 2 ∧ runD 8 (m_between S_advanced) cs = .ok (c, outs)) : DFn P w K mg base "between" (k + 1) S :=
  dfn_ok A sc_between (by decide) (m_between S_advanced) (fun cdv A outer s H E hr =>
    (pds_cons (pds_asg (pf_var (pv 0)) (pgd_tup rfl (pgds_cons (pgd_name (i := 2) sc_between.nd rfl (.inl rfl)) (pgds_cons (pgd_name (i := 3) sc_between.nd rfl (.inl rfl)) pgds_nil)) rfl))
    (pds_cons (pds_if (ptd_w (pwd_and (ptd_cmp op_le snd_le (nomark _) (ph_f (pf_var (pv 2))) (ph_f (pf_var (pv 1)))) (pwd_and1 (ptd_cmp op_le snd_le (nomark _) (ph_f (pf_var (pv 3))) (ph_f (pf_var (pv 1))))))) (pds_one (pds_ret (pn_f (pf_tup (pad_cons pf_str (pad_cons (pf_tup (pad_cons (pf_var (pv 2)) (pad_cons (pf_var (pv 3)) pad_nil))) (pad_cons (pf_tup (pad_cons (pf_var (pv 2)) (pad_cons (pf_var (pv 3)) pad_nil))) pad_nil))))))) pds_nil)
    (pds_cons (pds_asg (pf_tup (pad_cons (pf_tup (pad_cons pf_int (pad_cons pf_int pad_nil))) (pad_cons (pf_tup (pad_cons pf_int (pad_cons pf_int pad_nil))) pad_nil))) (pgd_tup rfl (pgds_cons (pgd_name (i := 4) sc_between.nd rfl (.inl rfl)) (pgds_cons (pgd_name (i := 5) sc_between.nd rfl (.inl rfl)) pgds_nil)) rfl))
    (pds_cons (pds_while PassesOwn.never (ptd_w (pwd_and (ptd_cmp op_le snd_le (nomark _) (ph_n (pn_op op_addA snd_add (ph_n (pn_ix ix_seq snd_ix (ph_f (pf_var (pv 4))) (ph_n (pn_f pf_int)) (fun _ _ => rfl))) (ph_n (pn_ix ix_seq snd_ix (ph_f (pf_var (pv 5))) (ph_n (pn_f pf_int)) (fun _ _ => rfl))))) (ph_f (pf_var (pv 1)))) (pwd_and1 (ptd_cmp op_le snd_le (nomark _) (ph_n (pn_op op_addA snd_add (ph_n (pn_ix ix_seq snd_ix (ph_f (pf_var (pv 4))) (ph_n (pn_f pf_int)) (fun _ _ => rfl))) (ph_n (pn_ix ix_seq snd_ix (ph_f (pf_var (pv 5))) (ph_n (pn_f pf_int)) (fun _ _ => rfl))))) (ph_f (pf_var (pv 1))))))) (pds_cons (pds_setF (i := 6) sc_between.nd rfl (.inl rfl) (pf_n (pn_op op_sub snd_sub (ph_n (pn_op op_mulA snd_mul (ph_f (pf_var (pv 2))) (ph_n (pn_ix ix_seq snd_ix (ph_f (pf_var (pv 4))) (ph_n (pn_f pf_int)) (fun _ _ => rfl))))) (ph_n (pn_op op_mulA snd_mul (ph_n (pn_ix ix_seq snd_ix (ph_f (pf_var (pv 4))) (ph_n (pn_f pf_int)) (fun _ _ => rfl))) (ph_f (pf_var (pv 3))))))))
    (pds_cons (pds_setF (i := 7) sc_between.nd rfl (.inl rfl) (pf_n (pn_op op_sub snd_sub (ph_n (pn_op op_mulA snd_mul (ph_n (pn_ix ix_seq snd_ix (ph_f (pf_var (pv 5))) (ph_n (pn_f pf_int)) (fun _ _ => rfl))) (ph_f (pf_var (pv 3))))) (ph_n (pn_op op_mulA snd_mul (ph_f (pf_var (pv 2))) (ph_n (pn_ix ix_seq snd_ix (ph_f (pf_var (pv 5))) (ph_n (pn_f pf_int)) (fun _ _ => rfl))))))))
    (pds_one (pds_if (ptd_cmp op_gt snd_gt (nomark _) (ph_f (pf_var (pv 6))) (ph_f (pf_var (pv 7)))) (pds_one (pds_setF (i := 4) sc_between.nd rfl (.inl rfl) (pf_n (pn_cd c_advanced hr h_advanced (by rfl) (pag_cons (pf_var (pv 4)) (pag_cons (pf_var (pv 5)) (pag_cons (pf_var (pv 1)) (pag_cons (pf_n (pn_op op_fdivA snd_fdiv (ph_f (pf_var (pv 6))) (ph_f (pf_var (pv 7))))) pag_nil)))))))) (pds_one (pds_setF (i := 5) sc_between.nd rfl (.inl rfl) (pf_n (pn_cd c_advanced hr h_advanced (by rfl) (pag_cons (pf_var (pv 5)) (pag_cons (pf_var (pv 4)) (pag_cons (pf_var (pv 1)) (pag_cons (pf_n (pn_op op_fdivA snd_fdiv (ph_f (pf_var (pv 7))) (ph_f (pf_var (pv 6))))) pag_nil)))))))))))))
    (pds_cons (pds_if (ptd_cmp (op_eqA (hu64 hr)) snd_eq (nomark _) (ph_n (pn_ix ix_seq snd_ix (ph_f (pf_var (pv 5))) (ph_n (pn_f pf_int)) (fun _ _ => rfl))) (ph_n (pn_f pf_int))) (pds_one (pds_ret (pn_f (pf_tup (pad_cons pf_str (pad_cons (pf_var (pv 4)) (pad_cons pf_non pad_nil))))))) pds_nil)
    (pds_one (pds_ret (pn_f (pf_tup (pad_cons pf_str (pad_cons (pf_var (pv 4)) (pad_cons (pf_var (pv 5)) pad_nil))))))))))))) hS
theorem der_below {f : Addr} {fd : FuncData} (A : At1 K mg "below" s_below p_below f fd) (T : Txt mg) {S_between : Sf} {j_between : Nat} (c_between : DFn P w K mg base "between" j_between S_between) {k : Nat} (h_between : j_between ≤ k) {S : Sf} (hS : ∀ cs c outs, S cs = .ok (c, outs) → cs.length = 2 ∧ runD 2 (m_below S_between) cs = .ok (c, outs)) : DFn P w K mg base "below" (k + 1) S :=
  dfn_ok A sc_below (by decide) (m_below S_between) (fun cdv A outer s H E hr =>
    (pds_one (pds_ret (pn_ix ix_seq snd_ix (ph_n (pn_cd c_between hr h_between (by rfl) (pag_cons (pf_var (pv 0)) (pag_cons (pf_var (pv 1)) pag_nil)))) (ph_n (pn_f pf_int)) (fun _ _ => rfl))))) hS
theorem der_above {f : Addr} {fd : FuncData} (A : At1 K mg "above" s_above p_above f fd) (T : Txt mg) {S_between : Sf} {j_between : Nat} (c_between : DFn P w K mg base "between" j_between S_between) {k : Nat} (h_between : j_between ≤ k) {S : Sf} (hS : ∀ cs c outs, S cs = .ok (c, outs) → cs.length = 2 ∧ runD 2 (m_above S_between) cs = .ok (c, outs)) : DFn P w K mg base "above" (k + 1) S :=
  dfn_ok A sc_above (by decide) (m_above S_between) (fun cdv A outer s H E hr =>
    (pds_one (pds_ret (pn_ix ix_seq snd_ix (ph_n (pn_cd c_between hr h_between (by rfl) (pag_cons (pf_var (pv 0)) (pag_cons (pf_var (pv 1)) pag_nil)))) (ph_n (pn_f pf_int)) (fun _ _ => rfl))))) hS
theorem der_is_within {f : Addr} {fd : FuncData} (A : At1 K mg "is_within" s_is_within p_is_within f fd) (T : Txt mg) {S_is_ratio : Sf} {j_is_ratio : Nat} (c_is_ratio : DFn P w K mg base "is_ratio" j_is_ratio S_is_ratio) {k : Nat} (h_is_ratio : j_is_ratio ≤ k) {S : Sf} (hS : ∀ cs c outs, S cs = .ok (c, outs) → cs.length = 2 ∧ runD 2 (m_is_within S_is_ratio) cs = .ok (c, outs)) : DFn P w K mg base "is_within" (k + 1) S :=
  dfn_ok A sc_is_within (by decide) (m_is_within S_is_ratio) (fun cdv A outer s H E hr =>
    (pds_one (pds_ret (pn_and (pn_cd c_is_ratio hr h_is_ratio (by rfl) (pag_cons (pf_var (pv 0)) pag_nil)) (pn_and (pn_chain op_le snd_le op_le snd_le (ph_n (pn_f pf_int)) (ph_n (pn_ix ix_seq snd_ix (ph_f (pf_var (pv 0))) (ph_n (pn_f pf_int)) (fun _ _ => rfl))) (ph_f (pf_var (pv 1)))) (pn_one (pn_cmp op_le snd_le (nomark _) (ph_n (pn_ix ix_seq snd_ix (ph_f (pf_var (pv 0))) (ph_n (pn_f pf_int)) (fun _ _ => rfl))) (ph_f (pf_var (pv 1)))))))))) hS
theorem der_is_between {f : Addr} {fd : FuncData} (A : At1 K mg "is_between" s_is_between p_is_between f fd) (T : Txt mg) {S_is_within : Sf} {j_is_within : Nat} (c_is_within : DFn P w K mg base "is_within" j_is_within S_is_within) {S_compare : Sf} {j_compare : Nat} (c_compare : DFn P w K mg base "compare" j_compare S_compare) {k : Nat} (h_is_within : j_is_within ≤ k) (h_compare : j_compare ≤ k) {S : Sf} (hS : ∀ cs c outs, S cs = .ok (c, outs) → cs.length = 3 ∧ runD 5 (m_is_between S_is_within S_compare) cs = .ok (c, outs)) : DFn P w K mg base "is_between" (k + 1) S :=
  dfn_ok A sc_is_between (by decide) (m_is_between S_is_within S_compare) (fun cdv A outer s H E hr =>
    (pds_cons (pds_if (ptd_w (pwd_or (ptd_not (ptd_tru (ph_n (pn_f (pf_isi tyOk_tuple (by rfl) T.b_isinstance (ph_f (pf_var (pv 0))) (by rfl) T.b_tuple bt_tuple))))) (pwd_or (ptd_cmp (op_neA (hu64 hr)) snd_ne (nomark _) (ph_n (pn_bi call_lenA snd_len (by rfl) T.b_len bt_len (pah_cons (ph_f (pf_var (pv 0))) pah_nil))) (ph_n (pn_f pf_int))) (pwd_or1 (ptd_cmp (op_neA (hu64 hr)) snd_ne (nomark _) (ph_n (pn_ix ix_seq snd_ix (ph_f (pf_var (pv 0))) (ph_n (pn_f pf_int)) (fun _ _ => rfl))) (ph_n (pn_f pf_str))))))) (pds_one (pds_ret (pn_f pf_bl))) pds_nil)
    (pds_cons (pds_parN (i := 3) (j := 4) rfl sc_is_between.nd rfl rfl (by decide) rfl rfl (pn_f (pf_n (pn_ix ix_seq snd_ix (ph_f (pf_var (pv 0))) (ph_n (pn_f pf_int)) (fun _ _ => rfl)))) (pn_f (pf_n (pn_ix ix_seq snd_ix (ph_f (pf_var (pv 0))) (ph_n (pn_f pf_int)) (fun _ _ => rfl)))) (by rfl))
    (pds_cons (pds_if (ptd_not (ptd_tru (ph_n (pn_cd c_is_within hr h_is_within (by rfl) (pag_cons (pf_var (pv 3)) (pag_cons (pf_var (pv 2)) pag_nil)))))) (pds_one (pds_ret (pn_f pf_bl))) pds_nil)
    (pds_cons (pds_if (ptd_cmp op_isA snd_is (nomark _) (ph_f (pf_var (pv 4))) (ph_n (pn_f pf_non))) (pds_one (pds_ret (pn_and (pn_cmp op_gt snd_gt (nomark _) (ph_n (pn_cd c_compare hr h_compare (by rfl) (pag_cons (pf_var (pv 1)) (pag_cons (pf_tup (pad_cons (pf_var (pv 2)) (pad_cons pf_int pad_nil))) pag_nil)))) (ph_n (pn_f pf_int))) (pn_one (pn_cmp (op_eqA (hu64 hr)) snd_eq (nomark _) (ph_f (pf_var (pv 3))) (ph_n (pn_f (pf_tup (pad_cons (pf_var (pv 2)) (pad_cons pf_int pad_nil)))))))))) pds_nil)
    (pds_cons (pds_if (ptd_not (ptd_tru (ph_n (pn_cd c_is_within hr h_is_within (by rfl) (pag_cons (pf_var (pv 4)) (pag_cons (pf_var (pv 2)) pag_nil)))))) (pds_one (pds_ret (pn_f pf_bl))) pds_nil)
    (pds_cons (pds_if (ptd_cmp (op_eqA (hu64 hr)) snd_eq (nomark _) (ph_f (pf_var (pv 3))) (ph_f (pf_var (pv 4)))) (pds_one (pds_ret (pn_cmp (op_eqA (hu64 hr)) snd_eq (nomark _) (ph_n (pn_cd c_compare hr h_compare (by rfl) (pag_cons (pf_var (pv 3)) (pag_cons (pf_var (pv 1)) pag_nil)))) (ph_n (pn_f pf_int))))) pds_nil)
    (pds_cons (pds_if (ptd_w (pwd_or (ptd_cmp op_ge snd_ge (nomark _) (ph_n (pn_cd c_compare hr h_compare (by rfl) (pag_cons (pf_var (pv 3)) (pag_cons (pf_var (pv 1)) pag_nil)))) (ph_n (pn_f pf_int))) (pwd_or1 (ptd_cmp op_ge snd_ge (nomark _) (ph_n (pn_cd c_compare hr h_compare (by rfl) (pag_cons (pf_var (pv 1)) (pag_cons (pf_var (pv 4)) pag_nil)))) (ph_n (pn_f pf_int)))))) (pds_one (pds_ret (pn_f pf_bl))) pds_nil)
    (pds_cons (pds_if (ptd_cmp (op_neA (hu64 hr)) snd_ne (nomark _) (ph_n (pn_op op_sub snd_sub (ph_n (pn_op op_mulA snd_mul (ph_n (pn_ix ix_seq snd_ix (ph_f (pf_var (pv 4))) (ph_n (pn_f pf_int)) (fun _ _ => rfl))) (ph_n (pn_ix ix_seq snd_ix (ph_f (pf_var (pv 3))) (ph_n (pn_f pf_int)) (fun _ _ => rfl))))) (ph_n (pn_op op_mulA snd_mul (ph_n (pn_ix ix_seq snd_ix (ph_f (pf_var (pv 3))) (ph_n (pn_f pf_int)) (fun _ _ => rfl))) (ph_n (pn_ix ix_seq snd_ix (ph_f (pf_var (pv 4))) (ph_n (pn_f pf_int)) (fun _ _ => rfl))))))) (ph_n (pn_f pf_int))) (pds_one (pds_ret (pn_f pf_bl))) pds_nil)
    (pds_one (pds_ret (pn_or (pn_cmp op_gt snd_gt (nomark _) (ph_n (pn_op op_addA snd_add (ph_n (pn_ix ix_seq snd_ix (ph_f (pf_var (pv 3))) (ph_n (pn_f pf_int)) (fun _ _ => rfl))) (ph_n (pn_ix ix_seq snd_ix (ph_f (pf_var (pv 4))) (ph_n (pn_f pf_int)) (fun _ _ => rfl))))) (ph_f (pf_var (pv 2)))) (pn_one (pn_cmp op_gt snd_gt (nomark _) (ph_n (pn_op op_addA snd_add (ph_n (pn_ix ix_seq snd_ix (ph_f (pf_var (pv 3))) (ph_n (pn_f pf_int)) (fun _ _ => rfl))) (ph_n (pn_ix ix_seq snd_ix (ph_f (pf_var (pv 4))) (ph_n (pn_f pf_int)) (fun _ _ => rfl))))) (ph_f (pf_var (pv 2))))))))))))))))) hS
theorem der_nearest {f : Addr} {fd : FuncData} (A : At1 K mg "nearest" s_nearest p_nearest f fd) (T : Txt mg) {S_between : Sf} {j_between : Nat} (c_between : DFn P w K mg base "between" j_between S_between) {S_compare : Sf} {j_compare : Nat} (c_compare : DFn P w K mg base "compare" j_compare S_compare) {S_minus : Sf} {j_minus : Nat} (c_minus : DFn P w K mg base "minus" j_minus S_minus) {k : Nat} (h_between : j_between ≤ k) (h_compare : j_compare ≤ k) (h_minus : j_minus ≤ k) {S : Sf} (hS : ∀ cs c outs, S cs = .ok (c, outs) → cs.length = 2 ∧ runD 5 (m_nearest S_between S_compare S_minus) cs = .ok (c, outs)) : DFn P w K mg base "nearest" (k + 1) S :=
  dfn_ok A sc_nearest (by decide) (m_nearest S_between S_compare S_minus) (fun cdv A outer s H E hr =>
    (pds_cons (pds_setF (i := 2) sc_nearest.nd rfl (.inl rfl) (pf_n (pn_cd c_between hr h_between (by rfl) (pag_cons (pf_var (pv 0)) (pag_cons (pf_var (pv 1)) pag_nil)))))
    (pds_cons (pds_parN (i := 3) (j := 4) rfl sc_nearest.nd rfl rfl (by decide) rfl rfl (pn_f (pf_n (pn_ix ix_seq snd_ix (ph_f (pf_var (pv 2))) (ph_n (pn_f pf_int)) (fun _ _ => rfl)))) (pn_f (pf_n (pn_ix ix_seq snd_ix (ph_f (pf_var (pv 2))) (ph_n (pn_f pf_int)) (fun _ _ => rfl)))) (by rfl))
    (pds_cons (pds_if (ptd_w (pwd_or (ptd_cmp op_isA snd_is (nomark _) (ph_f (pf_var (pv 4))) (ph_n (pn_f pf_non))) (pwd_or1 (ptd_cmp op_le snd_le (nomark _) (ph_n (pn_cd c_compare hr h_compare (by rfl) (pag_cons (pf_n (pn_cd c_minus hr h_minus (by rfl) (pag_cons (pf_var (pv 0)) (pag_cons (pf_var (pv 3)) pag_nil)))) (pag_cons (pf_n (pn_cd c_minus hr h_minus (by rfl) (pag_cons (pf_var (pv 4)) (pag_cons (pf_var (pv 0)) pag_nil)))) pag_nil)))) (ph_n (pn_f pf_int)))))) (pds_one (pds_ret (pn_f (pf_var (pv 3))))) pds_nil)
    (pds_one (pds_ret (pn_f (pf_var (pv 4))))))))) hS
theorem der_law_cell {f : Addr} {fd : FuncData} (A : At1 K mg "_law_cell" s_law_cell p_law_cell f fd) (T : Txt mg) {k : Nat} {S : Sf} (hS : ∀ cs c outs, S cs = .ok (c, outs) → cs.length = 2 ∧ runD 2 m_law_cell cs = .ok (c, outs)) : DFn P w K mg base "_law_cell" (k + 1) S :=
  dfn_ok A sc_law_cell (by decide) m_law_cell (fun cdv A outer s H E hr =>
    (pds_cons (pds_if (ptd_cmp op_ltA snd_lt (nomark _) (ph_f (pf_var (pv 1))) (ph_n (pn_bi call_lenA snd_len (by rfl) T.b_len bt_len (pah_cons (ph_f (pf_var (pv 0))) pah_nil)))) (pds_one (pds_ret (pn_ix ix_seq snd_ix (ph_f (pf_var (pv 0))) (ph_f (pf_var (pv 1))) (fun _ _ => rfl)))) pds_nil)
    (pds_one (pds_ret (pn_f pf_int))))) hS
theorem der_law_digits {f : Addr} {fd : FuncData} (A : At1 K mg "_law_digits" s_law_digits p_law_digits f fd) (T : Txt mg) {S_law_cell : Sf} {j_law_cell : Nat} (c_law_cell : DFn P w K mg base "_law_cell" j_law_cell S_law_cell) {k : Nat} (h_law_cell : j_law_cell ≤ k) {S : Sf} (hS : ∀ cs c outs, S cs = .ok (c, outs) → cs.length = 3 ∧ runD 8 (m_law_digits S_law_cell) cs = .ok (c, outs)) : DFn P w K mg base "_law_digits" (k + 1) S :=
  dfn_ok A sc_law_digits (by decide) (m_law_digits S_law_cell) (fun cdv A outer s H E hr =>
    (pds_cons (pds_set (i := 3) sc_law_digits.nd rfl (.inl rfl) (pn_lst pad_nil))
    (pds_cons (pds_for PassesOwn.never rfl (pid_rng2 (by rfl) T.b_range (pad_cons (pf_var (pv 1)) (pad_cons (pf_var (pv 2)) pad_nil))) (pgd_name (i := 4) sc_law_digits.nd rfl (.inl rfl)) (pds_cons (pds_setF (i := 5) sc_law_digits.nd rfl (.inl rfl) (pf_n (pn_cd c_law_cell hr h_law_cell (by rfl) (pag_cons (pf_var (pv 0)) (pag_cons (pf_var (pv 4)) pag_nil)))))
    (pds_cons (pds_if (ptd_cmp op_ltA snd_lt (nomark _) (ph_f (pf_var (pv 5))) (ph_n (pn_f pf_int))) (pds_one (pds_setF (i := 5) sc_law_digits.nd rfl (.inl rfl) (pf_n (pn_op op_sub snd_sub (ph_n (pn_f pf_int)) (ph_n (pn_op op_mulA snd_mul (ph_n (pn_f pf_int)) (ph_f (pf_var (pv 5))))))))) pds_nil)
    (pds_cons (pds_if (ptd_cmp op_gt snd_gt (nomark _) (ph_n (pn_bi call_lenA snd_len (by rfl) T.b_len bt_len (pah_cons (ph_var (pv 3)) pah_nil))) (ph_n (pn_f pf_int))) (pds_one pds_break) pds_nil)
    (pds_one (pds_if (ptd_cmp op_ge snd_ge (nomark _) (ph_f (pf_var (pv 5))) (ph_n (pn_op op_pow snd_pow (ph_n (pn_f pf_int)) (ph_n (pn_f pf_int))))) (pds_one (pds_for PassesOwn.never rfl (pid_rng1 (by rfl) T.b_range (pad_cons pf_int pad_nil)) (pgd_name (i := 6) sc_law_digits.nd rfl (.inl rfl)) (pds_one (pds_if (ptd_cmp op_gt snd_gt (nomark _) (ph_f (pf_var (pv 5))) (ph_n (pn_f pf_int))) (pds_cons (pds_app (i := 3) (pv 3) (pf_n (pn_op op_modA snd_mod (ph_n (pn_ty call_int1 snd_int (by rfl) T.b_int bt_int (pah_cons (ph_f (pf_var (pv 5))) pah_nil))) (ph_n (pn_f pf_int)))))
    (pds_one (pds_setF (i := 5) sc_law_digits.nd rfl (.inl rfl) (pf_n (pn_op op_fdivA snd_fdiv (ph_f (pf_var (pv 5))) (ph_n (pn_f pf_int))))))) pds_nil)))) (pds_cons (pds_setF (i := 7) sc_law_digits.nd rfl (.inl rfl) (pf_n (pn_op op_modA snd_mod (ph_n (pn_ty call_int1 snd_int (by rfl) T.b_int bt_int (pah_cons (ph_n (pn_op op_addA snd_add (ph_n (pn_op op_addA snd_add (ph_n (pn_op op_mulA snd_mul (ph_f (pf_var (pv 5))) (ph_n (pn_f pf_int)))) (ph_n (pn_op op_mulA snd_mul (ph_f (pf_var (pv 4))) (ph_n (pn_f pf_int)))))) (ph_n (pn_f pf_int)))) pah_nil))) (ph_n (pn_f pf_int)))))
    (pds_one (pds_for PassesOwn.never rfl (pid_rng1 (by rfl) T.b_range (pad_cons pf_int pad_nil)) (pgd_name (i := 6) sc_law_digits.nd rfl (.inl rfl)) (pds_cons (pds_setF (i := 7) sc_law_digits.nd rfl (.inl rfl) (pf_n (pn_op op_modA snd_mod (ph_n (pn_ty call_int1 snd_int (by rfl) T.b_int bt_int (pah_cons (ph_n (pn_op op_addA snd_add (ph_n (pn_op op_addA snd_add (ph_n (pn_op op_mulA snd_mul (ph_f (pf_var (pv 7))) (ph_n (pn_f pf_int)))) (ph_n (pn_op op_mulA snd_mul (ph_n (pn_f pf_int)) (ph_f (pf_var (pv 6))))))) (ph_n (pn_f pf_int)))) pah_nil))) (ph_n (pn_f pf_int)))))
    (pds_one (pds_app (i := 3) (pv 3) (pf_n (pn_op op_modA snd_mod (ph_n (pn_ty call_int1 snd_int (by rfl) T.b_int bt_int (pah_cons (ph_n (pn_op op_fdivA snd_fdiv (ph_f (pf_var (pv 7))) (ph_n (pn_f pf_int)))) pah_nil))) (ph_n (pn_f pf_int))))))))))))))))
    (pds_one (pds_retS 3 (pv 3)))))) hS
theorem der_law_draw {f : Addr} {fd : FuncData} (A : At1 K mg "_law_draw" s_law_draw p_law_draw f fd) (T : Txt mg) {k : Nat} {S : Sf} (hS : ∀ cs c outs, S cs = .ok (c, outs) → cs.length = 2 ∧ runD 3 m_law_draw cs = .ok (c, outs)) : DFn P w K mg base "_law_draw" (k + 1) S :=
  dfn_ok A sc_law_draw (by decide) m_law_draw (fun cdv A outer s H E hr =>
    (pds_cons (pds_setF (i := 2) sc_law_draw.nd rfl (.inl rfl) (pf_n (pn_ix ix_seq snd_ix (ph_var (pv 0)) (ph_n (pn_f pf_int)) (fun _ _ => rfl))))
    (pds_cons (pds_lput (i := 0) (pv 0) pf_int (pf_n (pn_op op_addA snd_add (ph_f (pf_var (pv 2))) (ph_n (pn_f pf_int)))))
    (pds_cons (pds_if (ptd_cmp op_ltA snd_lt (nomark _) (ph_f (pf_var (pv 2))) (ph_n (pn_bi call_lenA snd_len (by rfl) T.b_len bt_len (pah_cons (ph_n (pn_ix ix_seq snd_ix (ph_var (pv 0)) (ph_n (pn_f pf_int)) (fun _ _ => rfl))) pah_nil)))) (pds_one (pds_ret (pn_op op_modA snd_mod (ph_n (pn_ty call_int1 snd_int (by rfl) T.b_int bt_int (pah_cons (ph_n (pn_ix ix_seq snd_ix (ph_n (pn_ix ix_seq snd_ix (ph_var (pv 0)) (ph_n (pn_f pf_int)) (fun _ _ => rfl))) (ph_f (pf_var (pv 2))) (fun _ _ => rfl))) pah_nil))) (ph_f (pf_var (pv 1)))))) pds_nil)
    (pds_one (pds_ret (pn_op op_modA snd_mod (ph_n (pn_ty call_int1 snd_int (by rfl) T.b_int bt_int (pah_cons (ph_n (pn_op op_mulA snd_mul (ph_f (pf_var (pv 2))) (ph_n (pn_f pf_int)))) pah_nil))) (ph_f (pf_var (pv 1)))))))))) hS
theorem der_law_pick {f : Addr} {fd : FuncData} (A : At1 K mg "_law_pick" s_law_pick p_law_pick f fd) (T : Txt mg) {S_law_draw : Sf} {j_law_draw : Nat} (c_law_draw : DFn P w K mg base "_law_draw" j_law_draw S_law_draw) {k : Nat} (h_law_draw : j_law_draw ≤ k) {S : Sf} (hS : ∀ cs c outs, S cs = .ok (c, outs) → cs.length = 2 ∧ runD 2 (m_law_pick S_law_draw) cs = .ok (c, outs)) : DFn P w K mg base "_law_pick" (k + 1) S :=
  dfn_ok A sc_law_pick (by decide) (m_law_pick S_law_draw) (fun cdv A outer s H E hr =>
    (pds_one (pds_ret (pn_ix ix_seq snd_ix (ph_f (pf_var (pv 1))) (ph_n (pn_op op_modA snd_mod (ph_n (pn_ty call_int1 snd_int (by rfl) T.b_int bt_int (pah_cons (ph_n (pn_cd c_law_draw hr h_law_draw (by rfl) (pag_conS (pv 0) (pag_cons pf_int pag_nil)))) pah_nil))) (ph_n (pn_bi call_lenA snd_len (by rfl) T.b_len bt_len (pah_cons (ph_f (pf_var (pv 1))) pah_nil))))) (fun _ _ => rfl))))) hS
theorem der_law_like {f : Addr} {fd : FuncData} (A : At1 K mg "_law_like" s_law_like p_law_like f fd) (T : Txt mg) {S_law_like : Sf} {j_law_like : Nat} (c_law_like : DFn P w K mg base "_law_like" j_law_like S_law_like) {k : Nat} (h_law_like : j_law_like ≤ k) {S : Sf} (hS : ∀ cs c outs, S cs = .ok (c, outs) → cs.length = 2 ∧ runD 3 (m_law_like S_law_like) cs = .ok (c, outs)) : DFn P w K mg base "_law_like" (k + 1) S :=
  dfn_ok A sc_law_like (by decide) (m_law_like S_law_like) (fun cdv A outer s H E hr =>
    (pds_cons (pds_if (ptd_tru (ph_n (pn_f (pf_isi tyOk_tuple (by rfl) T.b_isinstance (ph_f (pf_var (pv 1))) (by rfl) T.b_tuple bt_tuple)))) (pds_cons (pds_if (ptd_w (pwd_or (ptd_not (ptd_tru (ph_n (pn_f (pf_isi tyOk_tuple (by rfl) T.b_isinstance (ph_f (pf_var (pv 0))) (by rfl) T.b_tuple bt_tuple))))) (pwd_or1 (ptd_cmp (op_neA (hu64 hr)) snd_ne (nomark _) (ph_n (pn_bi call_lenA snd_len (by rfl) T.b_len bt_len (pah_cons (ph_f (pf_var (pv 0))) pah_nil))) (ph_n (pn_bi call_lenA snd_len (by rfl) T.b_len bt_len (pah_cons (ph_f (pf_var (pv 1))) pah_nil))))))) (pds_one (pds_ret (pn_f pf_bl))) pds_nil)
    (pds_one (pds_ret (pn_cmp (op_eqA (hu64 hr)) snd_eq (nomark _) (ph_n (pn_lc (own := [("k", 2)]) rfl sc_law_like.nd (pid_rng1 (by rfl) T.b_range (pad_cons (pf_n (pn_bi call_lenA snd_len (by rfl) T.b_len bt_len (pah_cons (ph_f (pf_var (pv 1))) pah_nil))) pad_nil)) (blkOk_by (N := N_law_like) (sc := defScope s_law_like) (by decide +kernel)) (tgOk_n 2) (by decide) (fun _ _ _ _ _ => (pgd_name (i := 2) sc_law_like.nd rfl (.inl rfl))) (fun _ _ _ _ _ => (ptsd_one (ptd_not (ptd_tru (ph_n (pn_cd c_law_like hr h_law_like (by rfl) (pag_cons (pf_n (pn_ix ix_seq snd_ix (ph_f (pf_var (pv 0))) (ph_f (pf_var (pv 2))) (fun _ _ => rfl))) (pag_cons (pf_n (pn_ix ix_seq snd_ix (ph_f (pf_var (pv 1))) (ph_f (pf_var (pv 2))) (fun _ _ => rfl))) pag_nil)))))))) (fun _ _ _ _ _ => pf_int))) (ph_n (pn_lst pad_nil)))))) pds_nil)
    (pds_cons (pds_if (ptd_cmp op_isA snd_is (nomark _) (ph_f (pf_var (pv 1))) (ph_n (pn_f pf_non))) (pds_one (pds_ret (pn_cmp op_isA snd_is (nomark _) (ph_f (pf_var (pv 0))) (ph_n (pn_f pf_non))))) pds_nil)
    (pds_cons (pds_if (ptd_cmp op_isA snd_is (nomark _) (ph_f (pf_var (pv 1))) (ph_n (pn_f pf_bl))) (pds_one (pds_ret (pn_cmp op_isA snd_is (nomark _) (ph_f (pf_var (pv 0))) (ph_n (pn_f pf_bl))))) pds_nil)
    (pds_cons (pds_if (ptd_cmp op_isA snd_is (nomark _) (ph_f (pf_var (pv 1))) (ph_n (pn_f pf_bl))) (pds_one (pds_ret (pn_cmp op_isA snd_is (nomark _) (ph_f (pf_var (pv 0))) (ph_n (pn_f pf_bl))))) pds_nil)
    (pds_cons (pds_if (ptd_tru (ph_n (pn_f (pf_isi tyOk_str (by rfl) T.b_isinstance (ph_f (pf_var (pv 1))) (by rfl) T.b_str bt_str)))) (pds_one (pds_ret (pn_and (pn_f (pf_isi tyOk_str (by rfl) T.b_isinstance (ph_f (pf_var (pv 0))) (by rfl) T.b_str bt_str)) (pn_one (pn_cmp (op_eqA (hu64 hr)) snd_eq (nomark _) (ph_n (pn_join (ph_n (pn_f pf_str)) (ph_n (pn_lst (pad_cons (pf_var (pv 0)) pad_nil))))) (ph_f (pf_var (pv 1)))))))) pds_nil)
    (pds_one (pds_ret (pn_and (pn_f (pf_isi tyOk_int (by rfl) T.b_isinstance (ph_f (pf_var (pv 0))) (by rfl) T.b_int bt_int)) (pn_and (pn_f (pf_not (pn_f (pf_isi tyOk_bool (by rfl) T.b_isinstance (ph_f (pf_var (pv 0))) (by rfl) T.b_bool bt_bool)))) (pn_one (pn_cmp (op_eqA (hu64 hr)) snd_eq (nomark _) (ph_f (pf_var (pv 0))) (ph_f (pf_var (pv 1))))))))))))))) hS
theorem der_law_number {f : Addr} {fd : FuncData} (A : At1 K mg "_law_number" s_law_number p_law_number f fd) (T : Txt mg) {k : Nat} {S : Sf} (hS : ∀ cs c outs, S cs = .ok (c, outs) → cs.length = 3 ∧ runD 3 m_law_number cs = .ok (c, outs)) : DFn P w K mg base "_law_number" (k + 1) S :=
  dfn_ok A sc_law_number (by decide) m_law_number (fun cdv A outer s H E hr =>
    (pds_one (pds_ret (pn_and (pn_f (pf_isi tyOk_int (by rfl) T.b_isinstance (ph_f (pf_var (pv 0))) (by rfl) T.b_int bt_int)) (pn_and (pn_f (pf_not (pn_f (pf_isi tyOk_bool (by rfl) T.b_isinstance (ph_f (pf_var (pv 0))) (by rfl) T.b_bool bt_bool)))) (pn_one (pn_chain op_le snd_le op_le snd_le (ph_f (pf_var (pv 1))) (ph_f (pf_var (pv 0))) (ph_f (pf_var (pv 2)))))))))) hS
theorem der_law_gcd {f : Addr} {fd : FuncData} (A : At1 K mg "_law_gcd" s_law_gcd p_law_gcd f fd) (T : Txt mg) {k : Nat} {S : Sf} (hS : ∀ cs c outs, S cs = .ok (c, outs) → cs.length = 2 ∧ runD 3 m_law_gcd cs = .ok (c, outs)) : DFn P w K mg base "_law_gcd" (k + 1) S :=
  dfn_ok A sc_law_gcd (by decide) m_law_gcd (fun cdv A outer s H E hr =>
    (pds_cons (pds_for PassesOwn.never rfl (pid_rng1 (by rfl) T.b_range (pad_cons pf_int pad_nil)) (pgd_name (i := 2) sc_law_gcd.nd rfl (.inl rfl)) (pds_cons (pds_if (ptd_cmp (op_eqA (hu64 hr)) snd_eq (nomark _) (ph_f (pf_var (pv 1))) (ph_n (pn_f pf_int))) (pds_one pds_break) pds_nil)
    (pds_one (pds_parN (i := 0) (j := 1) rfl sc_law_gcd.nd rfl rfl (by decide) rfl rfl (pn_f (pf_var (pv 1))) (pn_f (pf_n (pn_op op_modA snd_mod (ph_n (pn_ty call_int1 snd_int (by rfl) T.b_int bt_int (pah_cons (ph_f (pf_var (pv 0))) pah_nil))) (ph_f (pf_var (pv 1)))))) (by rfl)))))
    (pds_one (pds_ret (pn_f (pf_var (pv 0))))))) hS
theorem der_law_ratio {f : Addr} {fd : FuncData} (A : At1 K mg "_law_ratio" s_law_ratio p_law_ratio f fd) (T : Txt mg) {S_law_gcd : Sf} {j_law_gcd : Nat} (c_law_gcd : DFn P w K mg base "_law_gcd" j_law_gcd S_law_gcd) {k : Nat} (h_law_gcd : j_law_gcd ≤ k) {S : Sf} (hS : ∀ cs c outs, S cs = .ok (c, outs) → cs.length = 2 ∧ runD 3 (m_law_ratio S_law_gcd) cs = .ok (c, outs)) : DFn P w K mg base "_law_ratio" (k + 1) S :=
  dfn_ok A sc_law_ratio (by decide) (m_law_ratio S_law_gcd) (fun cdv A outer s H E hr =>
    (pds_cons (pds_setF (i := 2) sc_law_ratio.nd rfl (.inl rfl) (pf_n (pn_cd c_law_gcd hr h_law_gcd (by rfl) (pag_cons (pf_n (pn_bi call_abs snd_abs (by rfl) T.b_abs bt_abs (pah_cons (ph_f (pf_var (pv 0))) pah_nil))) (pag_cons (pf_var (pv 1)) pag_nil)))))
    (pds_one (pds_ret (pn_f (pf_tup (pad_cons (pf_n (pn_op op_fdivA snd_fdiv (ph_f (pf_var (pv 0))) (ph_f (pf_var (pv 2))))) (pad_cons (pf_n (pn_op op_fdivA snd_fdiv (ph_f (pf_var (pv 1))) (ph_f (pf_var (pv 2))))) pad_nil)))))))) hS
theorem der_law_minus {f : Addr} {fd : FuncData} (A : At1 K mg "_law_minus" s_law_minus p_law_minus f fd) (T : Txt mg) {S_law_ratio : Sf} {j_law_ratio : Nat} (c_law_ratio : DFn P w K mg base "_law_ratio" j_law_ratio S_law_ratio) {k : Nat} (h_law_ratio : j_law_ratio ≤ k) {S : Sf} (hS : ∀ cs c outs, S cs = .ok (c, outs) → cs.length = 2 ∧ runD 2 (m_law_minus S_law_ratio) cs = .ok (c, outs)) : DFn P w K mg base "_law_minus" (k + 1) S :=
  dfn_ok A sc_law_minus (by decide) (m_law_minus S_law_ratio) (fun cdv A outer s H E hr =>
    (pds_one (pds_ret (pn_cd c_law_ratio hr h_law_ratio (by rfl) (pag_cons (pf_n (pn_op op_sub snd_sub (ph_n (pn_op op_mulA snd_mul (ph_n (pn_ix ix_seq snd_ix (ph_f (pf_var (pv 0))) (ph_n (pn_f pf_int)) (fun _ _ => rfl))) (ph_n (pn_ix ix_seq snd_ix (ph_f (pf_var (pv 1))) (ph_n (pn_f pf_int)) (fun _ _ => rfl))))) (ph_n (pn_op op_mulA snd_mul (ph_n (pn_ix ix_seq snd_ix (ph_f (pf_var (pv 1))) (ph_n (pn_f pf_int)) (fun _ _ => rfl))) (ph_n (pn_ix ix_seq snd_ix (ph_f (pf_var (pv 0))) (ph_n (pn_f pf_int)) (fun _ _ => rfl))))))) (pag_cons (pf_n (pn_op op_mulA snd_mul (ph_n (pn_ix ix_seq snd_ix (ph_f (pf_var (pv 0))) (ph_n (pn_f pf_int)) (fun _ _ => rfl))) (ph_n (pn_ix ix_seq snd_ix (ph_f (pf_var (pv 1))) (ph_n (pn_f pf_int)) (fun _ _ => rfl))))) pag_nil)))))) hS
theorem der_law_less {f : Addr} {fd : FuncData} (A : At1 K mg "_law_less" s_law_less p_law_less f fd) (T : Txt mg) {k : Nat} {S : Sf} (hS : ∀ cs c outs, S cs = .ok (c, outs) → cs.length = 2 ∧ runD 2 m_law_less cs = .ok (c, outs)) : DFn P w K mg base "_law_less" (k + 1) S :=
  dfn_ok A sc_law_less (by decide) m_law_less (fun cdv A outer s H E hr =>
    (pds_one (pds_ret (pn_cmp op_ltA snd_lt (nomark _) (ph_n (pn_op op_mulA snd_mul (ph_n (pn_ix ix_seq snd_ix (ph_f (pf_var (pv 0))) (ph_n (pn_f pf_int)) (fun _ _ => rfl))) (ph_n (pn_ix ix_seq snd_ix (ph_f (pf_var (pv 1))) (ph_n (pn_f pf_int)) (fun _ _ => rfl))))) (ph_n (pn_op op_mulA snd_mul (ph_n (pn_ix ix_seq snd_ix (ph_f (pf_var (pv 1))) (ph_n (pn_f pf_int)) (fun _ _ => rfl))) (ph_n (pn_ix ix_seq snd_ix (ph_f (pf_var (pv 0))) (ph_n (pn_f pf_int)) (fun _ _ => rfl))))))))) hS
theorem der_law_right {f : Addr} {fd : FuncData} (A : At1 K mg "_law_right" s_law_right p_law_right f fd) (T : Txt mg) {S_law_like : Sf} {j_law_like : Nat} (c_law_like : DFn P w K mg base "_law_like" j_law_like S_law_like) {S_law_is_within : Sf} {j_law_is_within : Nat} (c_law_is_within : DFn P w K mg base "_law_is_within" j_law_is_within S_law_is_within) {S_law_less : Sf} {j_law_less : Nat} (c_law_less : DFn P w K mg base "_law_less" j_law_less S_law_less) {k : Nat} (h_law_like : j_law_like ≤ k) (h_law_is_within : j_law_is_within ≤ k) (h_law_less : j_law_less ≤ k) {S : Sf} (hS : ∀ cs c outs, S cs = .ok (c, outs) → cs.length = 3 ∧ runD 7 (m_law_right_2f3bd5 S_law_like S_law_is_within S_law_less) cs = .ok (c, outs)) : DFn P w K mg base "_law_right" (k + 1) S :=
  dfn_ok A sc_law_right (by decide) (m_law_right_2f3bd5 S_law_like S_law_is_within S_law_less) (fun cdv A outer s H E hr =>
    (pds_cons (pds_if (ptd_w (pwd_or (ptd_not (ptd_tru (ph_n (pn_f (pf_isi tyOk_tuple (by rfl) T.b_isinstance (ph_f (pf_var (pv 2))) (by rfl) T.b_tuple bt_tuple))))) (pwd_or (ptd_cmp (op_neA (hu64 hr)) snd_ne (nomark _) (ph_n (pn_bi call_lenA snd_len (by rfl) T.b_len bt_len (pah_cons (ph_f (pf_var (pv 2))) pah_nil))) (ph_n (pn_f pf_int))) (pwd_or (ptd_not (ptd_tru (ph_n (pn_cd c_law_like hr h_law_like (by rfl) (pag_cons (pf_n (pn_ix ix_seq snd_ix (ph_f (pf_var (pv 2))) (ph_n (pn_f pf_int)) (fun _ _ => rfl))) (pag_cons pf_str pag_nil)))))) (pwd_or1 (ptd_not (ptd_tru (ph_n (pn_cd c_law_is_within hr h_law_is_within (by rfl) (pag_cons (pf_n (pn_ix ix_seq snd_ix (ph_f (pf_var (pv 2))) (ph_n (pn_f pf_int)) (fun _ _ => rfl))) (pag_cons (pf_var (pv 1)) pag_nil))))))))))) (pds_one (pds_ret (pn_f pf_bl))) pds_nil)
    (pds_cons (pds_if (ptd_cmp op_isA snd_is (nomark _) (ph_n (pn_ix ix_seq snd_ix (ph_f (pf_var (pv 2))) (ph_n (pn_f pf_int)) (fun _ _ => rfl))) (ph_n (pn_f pf_non))) (pds_one (pds_ret (pn_and (pn_cd c_law_less hr h_law_less (by rfl) (pag_cons (pf_tup (pad_cons (pf_var (pv 1)) (pad_cons pf_int pad_nil))) (pag_cons (pf_var (pv 0)) pag_nil))) (pn_one (pn_cmp (op_eqA (hu64 hr)) snd_eq (nomark _) (ph_n (pn_ix ix_seq snd_ix (ph_f (pf_var (pv 2))) (ph_n (pn_f pf_int)) (fun _ _ => rfl))) (ph_n (pn_f (pf_tup (pad_cons (pf_var (pv 1)) (pad_cons pf_int pad_nil)))))))))) pds_nil)
    (pds_cons (pds_if (ptd_not (ptd_tru (ph_n (pn_cd c_law_is_within hr h_law_is_within (by rfl) (pag_cons (pf_n (pn_ix ix_seq snd_ix (ph_f (pf_var (pv 2))) (ph_n (pn_f pf_int)) (fun _ _ => rfl))) (pag_cons (pf_var (pv 1)) pag_nil)))))) (pds_one (pds_ret (pn_f pf_bl))) pds_nil)
    (pds_cons (pds_if (ptd_w (pwd_and (ptd_cmp (op_eqA (hu64 hr)) snd_eq (nomark _) (ph_n (pn_ix ix_seq snd_ix (ph_f (pf_var (pv 2))) (ph_n (pn_f pf_int)) (fun _ _ => rfl))) (ph_f (pf_var (pv 0)))) (pwd_and1 (ptd_cmp (op_eqA (hu64 hr)) snd_eq (nomark _) (ph_n (pn_ix ix_seq snd_ix (ph_f (pf_var (pv 2))) (ph_n (pn_f pf_int)) (fun _ _ => rfl))) (ph_f (pf_var (pv 0))))))) (pds_one (pds_ret (pn_f pf_bl))) pds_nil)
    (pds_cons (pds_asg (pf_tup (pad_cons (pf_n (pn_ix ix_seq snd_ix (ph_f (pf_var (pv 2))) (ph_n (pn_f pf_int)) (fun _ _ => rfl))) (pad_cons (pf_n (pn_ix ix_seq snd_ix (ph_f (pf_var (pv 2))) (ph_n (pn_f pf_int)) (fun _ _ => rfl))) pad_nil))) (pgd_tup rfl (pgds_cons (pgd_tup rfl (pgds_cons (pgd_name (i := 3) sc_law_right.nd rfl (.inl rfl)) (pgds_cons (pgd_name (i := 4) sc_law_right.nd rfl (.inl rfl)) pgds_nil)) rfl) (pgds_cons (pgd_tup rfl (pgds_cons (pgd_name (i := 5) sc_law_right.nd rfl (.inl rfl)) (pgds_cons (pgd_name (i := 6) sc_law_right.nd rfl (.inl rfl)) pgds_nil)) rfl) pgds_nil)) rfl))
    (pds_one (pds_ret (pn_and (pn_cd c_law_less hr h_law_less (by rfl) (pag_cons (pf_n (pn_ix ix_seq snd_ix (ph_f (pf_var (pv 2))) (ph_n (pn_f pf_int)) (fun _ _ => rfl))) (pag_cons (pf_var (pv 0)) pag_nil))) (pn_and (pn_cd c_law_less hr h_law_less (by rfl) (pag_cons (pf_var (pv 0)) (pag_cons (pf_n (pn_ix ix_seq snd_ix (ph_f (pf_var (pv 2))) (ph_n (pn_f pf_int)) (fun _ _ => rfl))) pag_nil))) (pn_and (pn_cmp (op_eqA (hu64 hr)) snd_eq (nomark _) (ph_n (pn_op op_sub snd_sub (ph_n (pn_op op_mulA snd_mul (ph_f (pf_var (pv 5))) (ph_f (pf_var (pv 4))))) (ph_n (pn_op op_mulA snd_mul (ph_f (pf_var (pv 3))) (ph_f (pf_var (pv 6))))))) (ph_n (pn_f pf_int))) (pn_one (pn_or (pn_cmp op_gt snd_gt (nomark _) (ph_n (pn_op op_addA snd_add (ph_f (pf_var (pv 3))) (ph_f (pf_var (pv 5))))) (ph_f (pf_var (pv 1)))) (pn_one (pn_cmp op_gt snd_gt (nomark _) (ph_n (pn_op op_addA snd_add (ph_f (pf_var (pv 4))) (ph_f (pf_var (pv 6))))) (ph_f (pf_var (pv 1)))))))))))))))))) hS
theorem der_law_is_within {f : Addr} {fd : FuncData} (A : At1 K mg "_law_is_within" s_law_is_within p_law_is_within f fd) (T : Txt mg) {S_law_number : Sf} {j_law_number : Nat} (c_law_number : DFn P w K mg base "_law_number" j_law_number S_law_number) {S_law_gcd : Sf} {j_law_gcd : Nat} (c_law_gcd : DFn P w K mg base "_law_gcd" j_law_gcd S_law_gcd) {k : Nat} (h_law_number : j_law_number ≤ k) (h_law_gcd : j_law_gcd ≤ k) {S : Sf} (hS : ∀ cs c outs, S cs = .ok (c, outs) → cs.length = 2 ∧ runD 2 (m_law_is_within S_law_number S_law_gcd) cs = .ok (c, outs)) : DFn P w K mg base "_law_is_within" (k + 1) S :=
  dfn_ok A sc_law_is_within (by decide) (m_law_is_within S_law_number S_law_gcd) (fun cdv A outer s H E hr =>
    (pds_one (pds_ret (pn_and (pn_f (pf_isi tyOk_tuple (by rfl) T.b_isinstance (ph_f (pf_var (pv 0))) (by rfl) T.b_tuple bt_tuple)) (pn_and (pn_cmp (op_eqA (hu64 hr)) snd_eq (nomark _) (ph_n (pn_bi call_lenA snd_len (by rfl) T.b_len bt_len (pah_cons (ph_f (pf_var (pv 0))) pah_nil))) (ph_n (pn_f pf_int))) (pn_and (pn_cd c_law_number hr h_law_number (by rfl) (pag_cons (pf_n (pn_ix ix_seq snd_ix (ph_f (pf_var (pv 0))) (ph_n (pn_f pf_int)) (fun _ _ => rfl))) (pag_cons pf_int (pag_cons (pf_var (pv 1)) pag_nil)))) (pn_and (pn_cd c_law_number hr h_law_number (by rfl) (pag_cons (pf_n (pn_ix ix_seq snd_ix (ph_f (pf_var (pv 0))) (ph_n (pn_f pf_int)) (fun _ _ => rfl))) (pag_cons pf_int (pag_cons (pf_var (pv 1)) pag_nil)))) (pn_one (pn_cmp (op_eqA (hu64 hr)) snd_eq (nomark _) (ph_n (pn_cd c_law_gcd hr h_law_gcd (by rfl) (pag_cons (pf_n (pn_ix ix_seq snd_ix (ph_f (pf_var (pv 0))) (ph_n (pn_f pf_int)) (fun _ _ => rfl))) (pag_cons (pf_n (pn_ix ix_seq snd_ix (ph_f (pf_var (pv 0))) (ph_n (pn_f pf_int)) (fun _ _ => rfl))) pag_nil)))) (ph_n (pn_f pf_int))))))))))) hS
theorem der_law_tried {f : Addr} {fd : FuncData} (A : At1 K mg "_law_tried" s_law_tried p_law_tried f fd) (T : Txt mg) {S_law_less : Sf} {j_law_less : Nat} (c_law_less : DFn P w K mg base "_law_less" j_law_less S_law_less) {S_law_ratio : Sf} {j_law_ratio : Nat} (c_law_ratio : DFn P w K mg base "_law_ratio" j_law_ratio S_law_ratio) {k : Nat} (h_law_less : j_law_less ≤ k) (h_law_ratio : j_law_ratio ≤ k) {S : Sf} (hS : ∀ cs c outs, S cs = .ok (c, outs) → cs.length = 2 ∧ runD 6 (m_law_tried S_law_less S_law_ratio) cs = .ok (c, outs)) : DFn P w K mg base "_law_tried" (k + 1) S :=
  dfn_ok A sc_law_tried (by decide) (m_law_tried S_law_less S_law_ratio) (fun cdv A outer s H E hr =>
    (pds_cons (pds_asg (pf_tup (pad_cons (pf_tup (pad_cons pf_int (pad_cons pf_int pad_nil))) (pad_cons pf_non pad_nil))) (pgd_tup rfl (pgds_cons (pgd_name (i := 2) sc_law_tried.nd rfl (.inl rfl)) (pgds_cons (pgd_name (i := 3) sc_law_tried.nd rfl (.inl rfl)) pgds_nil)) rfl))
    (pds_cons (pds_for PassesOwn.never rfl (pid_rng2 (by rfl) T.b_range (pad_cons pf_int (pad_cons (pf_n (pn_op op_addA snd_add (ph_f (pf_var (pv 1))) (ph_n (pn_f pf_int)))) pad_nil))) (pgd_name (i := 4) sc_law_tried.nd rfl (.inl rfl)) (pds_cons (pds_setF (i := 5) sc_law_tried.nd rfl (.inl rfl) (pf_n (pn_bi (call_minA rfl) snd_min (by rfl) T.b_min bt_min (pah_cons (ph_f (pf_var (pv 1))) (pah_cons (ph_n (pn_op op_fdivA snd_fdiv (ph_n (pn_op op_mulA snd_mul (ph_n (pn_ix ix_seq snd_ix (ph_f (pf_var (pv 0))) (ph_n (pn_f pf_int)) (fun _ _ => rfl))) (ph_f (pf_var (pv 4))))) (ph_n (pn_ix ix_seq snd_ix (ph_f (pf_var (pv 0))) (ph_n (pn_f pf_int)) (fun _ _ => rfl))))) pah_nil)))))
    (pds_cons (pds_if (ptd_tru (ph_n (pn_cd c_law_less hr h_law_less (by rfl) (pag_cons (pf_var (pv 2)) (pag_cons (pf_tup (pad_cons (pf_var (pv 5)) (pad_cons (pf_var (pv 4)) pad_nil))) pag_nil))))) (pds_one (pds_setF (i := 2) sc_law_tried.nd rfl (.inl rfl) (pf_n (pn_cd c_law_ratio hr h_law_ratio (by rfl) (pag_cons (pf_var (pv 5)) (pag_cons (pf_var (pv 4)) pag_nil)))))) pds_nil)
    (pds_cons (pds_setF (i := 5) sc_law_tried.nd rfl (.inl rfl) (pf_n (pn_op op_sub snd_sub (ph_n (pn_f pf_int)) (ph_n (pn_op op_fdivA snd_fdiv (ph_n (pn_op op_sub snd_sub (ph_n (pn_f pf_int)) (ph_n (pn_op op_mulA snd_mul (ph_n (pn_ix ix_seq snd_ix (ph_f (pf_var (pv 0))) (ph_n (pn_f pf_int)) (fun _ _ => rfl))) (ph_f (pf_var (pv 4))))))) (ph_n (pn_ix ix_seq snd_ix (ph_f (pf_var (pv 0))) (ph_n (pn_f pf_int)) (fun _ _ => rfl))))))))
    (pds_one (pds_if (ptd_w (pwd_and (ptd_cmp op_le snd_le (nomark _) (ph_f (pf_var (pv 5))) (ph_f (pf_var (pv 1)))) (pwd_and1 (ptd_w (pwd_or (ptd_cmp op_isA snd_is (nomark _) (ph_f (pf_var (pv 3))) (ph_n (pn_f pf_non))) (pwd_or1 (ptd_tru (ph_n (pn_cd c_law_less hr h_law_less (by rfl) (pag_cons (pf_tup (pad_cons (pf_var (pv 5)) (pad_cons (pf_var (pv 4)) pad_nil))) (pag_cons (pf_var (pv 3)) pag_nil))))))))))) (pds_one (pds_setF (i := 3) sc_law_tried.nd rfl (.inl rfl) (pf_n (pn_cd c_law_ratio hr h_law_ratio (by rfl) (pag_cons (pf_var (pv 5)) (pag_cons (pf_var (pv 4)) pag_nil)))))) pds_nil))))))
    (pds_one (pds_ret (pn_lst (pad_cons (pf_var (pv 2)) (pad_cons (pf_var (pv 3)) pad_nil)))))))) hS
theorem der_law_near {f : Addr} {fd : FuncData} (A : At1 K mg "_law_near" s_law_near p_law_near f fd) (T : Txt mg) {S_law_less : Sf} {j_law_less : Nat} (c_law_less : DFn P w K mg base "_law_less" j_law_less S_law_less) {S_law_minus : Sf} {j_law_minus : Nat} (c_law_minus : DFn P w K mg base "_law_minus" j_law_minus S_law_minus) {k : Nat} (h_law_less : j_law_less ≤ k) (h_law_minus : j_law_minus ≤ k) {S : Sf} (hS : ∀ cs c outs, S cs = .ok (c, outs) → cs.length = 3 ∧ runD 3 (m_law_near S_law_less S_law_minus) cs = .ok (c, outs)) : DFn P w K mg base "_law_near" (k + 1) S :=
  dfn_ok A sc_law_near (by decide) (m_law_near S_law_less S_law_minus) (fun cdv A outer s H E hr =>
    (pds_cons (pds_if (ptd_cmp op_isA snd_is (nomark _) (ph_f (pf_var (pv 2))) (ph_n (pn_f pf_non))) (pds_one (pds_ret (pn_f (pf_var (pv 1))))) pds_nil)
    (pds_one (pds_ret (pn_if (ptd_tru (ph_n (pn_cd c_law_less hr h_law_less (by rfl) (pag_cons (pf_n (pn_cd c_law_minus hr h_law_minus (by rfl) (pag_cons (pf_var (pv 2)) (pag_cons (pf_var (pv 0)) pag_nil)))) (pag_cons (pf_n (pn_cd c_law_minus hr h_law_minus (by rfl) (pag_cons (pf_var (pv 0)) (pag_cons (pf_var (pv 1)) pag_nil)))) pag_nil))))) (pn_f (pf_var (pv 2))) (pn_f (pf_var (pv 1)))))))) hS
theorem der_law {f : Addr} {fd : FuncData} (A : At1 K mg "law" s_law p_law f fd) (T : Txt mg) {S_law_digits : Sf} {j_law_digits : Nat} (c_law_digits : DFn P w K mg base "_law_digits" j_law_digits S_law_digits) {S_law_draw : Sf} {j_law_draw : Nat} (c_law_draw : DFn P w K mg base "_law_draw" j_law_draw S_law_draw) {S_law_pick : Sf} {j_law_pick : Nat} (c_law_pick : DFn P w K mg base "_law_pick" j_law_pick S_law_pick) {S_law_ratio : Sf} {j_law_ratio : Nat} (c_law_ratio : DFn P w K mg base "_law_ratio" j_law_ratio S_law_ratio) {S_law_tried : Sf} {j_law_tried : Nat} (c_law_tried : DFn P w K mg base "_law_tried" j_law_tried S_law_tried) {S_law_like : Sf} {j_law_like : Nat} (c_law_like : DFn P w K mg base "_law_like" j_law_like S_law_like) {S_below : Sf} {j_below : Nat} (c_below : DFn P w K mg base "below" j_below S_below) {S_above : Sf} {j_above : Nat} (c_above : DFn P w K mg base "above" j_above S_above) {S_nearest : Sf} {j_nearest : Nat} (c_nearest : DFn P w K mg base "nearest" j_nearest S_nearest) {S_law_near : Sf} {j_law_near : Nat} (c_law_near : DFn P w K mg base "_law_near" j_law_near S_law_near) {S_between : Sf} {j_between : Nat} (c_between : DFn P w K mg base "between" j_between S_between) {S_law_right : Sf} {j_law_right : Nat} (c_law_right : DFn P w K mg base "_law_right" j_law_right S_law_right) {S_is_between : Sf} {j_is_between : Nat} (c_is_between : DFn P w K mg base "is_between" j_is_between S_is_between) {k : Nat} (h_law_digits : j_law_digits ≤ k) (h_law_draw : j_law_draw ≤ k) (h_law_pick : j_law_pick ≤ k) (h_law_ratio : j_law_ratio ≤ k) (h_law_tried : j_law_tried ≤ k) (h_law_like : j_law_like ≤ k) (h_below : j_below ≤ k) (h_above : j_above ≤ k) (h_nearest : j_nearest ≤ k) (h_law_near : j_law_near ≤ k) (h_between : j_between ≤ k) (h_law_right : j_law_right ≤ k) (h_is_between : j_is_between ≤ k) {S : Sf} (hS : ∀ cs c outs, S cs = .ok (c, outs) → cs.length = 1 ∧ runD 14 (m_law_b55304 S_law_digits S_law_draw S_law_pick S_law_ratio S_law_tried S_law_like S_below S_above S_nearest S_law_near S_between S_law_right S_is_between) cs = .ok (c, outs)) : FnD P w K mg base (k + 1) f fd p_law S :=
  DFn.law A sc_law (by decide) (m_law_b55304 S_law_digits S_law_draw S_law_pick S_law_ratio S_law_tried S_law_like S_below S_above S_nearest S_law_near S_between S_law_right S_is_between) (fun cdv A outer s H E hr =>
    (pds_cons (pds_set (i := 1) sc_law.nd rfl (.inl rfl) (pn_lst (pad_cons (pf_n (pn_cd c_law_digits hr h_law_digits (by rfl) (pag_cons (pf_var (pv 0)) (pag_cons pf_int (pag_cons pf_int pag_nil))))) (pad_cons pf_int pad_nil))))
    (pds_cons (pds_for PassesOwn.never rfl (pid_rng1 (by rfl) T.b_range (pad_cons pf_int pad_nil)) (pgd_name (i := 2) sc_law.nd rfl (.inl rfl)) (pds_cons (pds_setF (i := 3) sc_law.nd rfl (.inl rfl) (pf_n (pn_op op_addA snd_add (ph_n (pn_f pf_int)) (ph_n (pn_cd c_law_draw hr h_law_draw (by rfl) (pag_conS (pv 1) (pag_cons (pf_n (pn_cd c_law_pick hr h_law_pick (by rfl) (pag_conS (pv 1) (pag_cons (pf_n (pn_lst (pad_cons pf_int (pad_cons pf_int (pad_cons pf_int pad_nil))))) pag_nil)))) pag_nil)))))))
    (pds_cons (pds_setF (i := 4) sc_law.nd rfl (.inl rfl) (pf_n (pn_cd c_law_ratio hr h_law_ratio (by rfl) (pag_cons (pf_n (pn_cd c_law_draw hr h_law_draw (by rfl) (pag_conS (pv 1) (pag_cons pf_int pag_nil)))) (pag_cons (pf_n (pn_op op_addA snd_add (ph_n (pn_f pf_int)) (ph_n (pn_cd c_law_draw hr h_law_draw (by rfl) (pag_conS (pv 1) (pag_cons (pf_n (pn_cd c_law_pick hr h_law_pick (by rfl) (pag_conS (pv 1) (pag_cons (pf_n (pn_lst (pad_cons pf_int (pad_cons pf_int (pad_cons pf_int pad_nil))))) pag_nil)))) pag_nil)))))) pag_nil)))))
    (pds_cons (pds_asg (pf_n (pn_cd c_law_tried hr h_law_tried (by rfl) (pag_cons (pf_var (pv 4)) (pag_cons (pf_var (pv 3)) pag_nil)))) (pgd_lst rfl (pgds_cons (pgd_name (i := 5) sc_law.nd rfl (.inl rfl)) (pgds_cons (pgd_name (i := 6) sc_law.nd rfl (.inl rfl)) pgds_nil)) rfl))
    (pds_cons (pds_if (ptd_w (pwd_or (ptd_not (ptd_tru (ph_n (pn_cd c_law_like hr h_law_like (by rfl) (pag_cons (pf_n (pn_cd c_below hr h_below (by rfl) (pag_cons (pf_var (pv 4)) (pag_cons (pf_var (pv 3)) pag_nil)))) (pag_cons (pf_var (pv 5)) pag_nil)))))) (pwd_or (ptd_not (ptd_tru (ph_n (pn_cd c_law_like hr h_law_like (by rfl) (pag_cons (pf_n (pn_cd c_above hr h_above (by rfl) (pag_cons (pf_var (pv 4)) (pag_cons (pf_var (pv 3)) pag_nil)))) (pag_cons (pf_var (pv 6)) pag_nil)))))) (pwd_or1 (ptd_not (ptd_tru (ph_n (pn_cd c_law_like hr h_law_like (by rfl) (pag_cons (pf_n (pn_cd c_nearest hr h_nearest (by rfl) (pag_cons (pf_var (pv 4)) (pag_cons (pf_var (pv 3)) pag_nil)))) (pag_cons (pf_n (pn_cd c_law_near hr h_law_near (by rfl) (pag_cons (pf_var (pv 4)) (pag_cons (pf_var (pv 5)) (pag_cons (pf_var (pv 6)) pag_nil))))) pag_nil)))))))))) (pds_one (pds_ret (pn_f pf_bl))) pds_nil)
    (pds_cons (pds_setF (i := 7) sc_law.nd rfl (.inl rfl) (pf_n (pn_cd c_between hr h_between (by rfl) (pag_cons (pf_var (pv 4)) (pag_cons (pf_var (pv 3)) pag_nil)))))
    (pds_cons (pds_if (ptd_w (pwd_or (ptd_not (ptd_tru (ph_n (pn_cd c_law_right hr h_law_right (by rfl) (pag_cons (pf_var (pv 4)) (pag_cons (pf_var (pv 3)) (pag_cons (pf_var (pv 7)) pag_nil))))))) (pwd_or1 (ptd_cmp op_isntA snd_isnt (nomark _) (ph_n (pn_cd c_is_between hr h_is_between (by rfl) (pag_cons (pf_var (pv 7)) (pag_cons (pf_var (pv 4)) (pag_cons (pf_var (pv 3)) pag_nil))))) (ph_n (pn_f pf_bl)))))) (pds_one (pds_ret (pn_f pf_bl))) pds_nil)
    (pds_cons (pds_setF (i := 8) sc_law.nd rfl (.inl rfl) (pf_n (pn_cd c_law_near hr h_law_near (by rfl) (pag_cons (pf_var (pv 4)) (pag_cons (pf_var (pv 5)) (pag_cons (pf_var (pv 6)) pag_nil))))))
    (pds_cons (pds_setF (i := 9) sc_law.nd rfl (.inl rfl) (pf_n (pn_lst (pad_cons (pf_tup (pad_cons pf_str (pad_cons (pf_tup (pad_cons (pf_n (pn_bi (call_maxA rfl) snd_max (by rfl) T.b_max bt_max (pah_cons (ph_n (pn_f pf_int)) (pah_cons (ph_n (pn_op op_sub snd_sub (ph_n (pn_ix ix_seq snd_ix (ph_f (pf_var (pv 8))) (ph_n (pn_f pf_int)) (fun _ _ => rfl))) (ph_n (pn_f pf_int)))) pah_nil)))) (pad_cons pf_int pad_nil))) (pad_cons (pf_var (pv 8)) pad_nil)))) (pad_cons (pf_tup (pad_cons pf_str (pad_cons (pf_var (pv 8)) (pad_cons (pf_tup (pad_cons (pf_n (pn_op op_addA snd_add (ph_n (pn_ix ix_seq snd_ix (ph_f (pf_var (pv 8))) (ph_n (pn_f pf_int)) (fun _ _ => rfl))) (ph_n (pn_f pf_int)))) (pad_cons (pf_n (pn_ix ix_seq snd_ix (ph_f (pf_var (pv 8))) (ph_n (pn_f pf_int)) (fun _ _ => rfl))) pad_nil))) pad_nil)))) pad_nil)))))
    (pds_cons (pds_setF (i := 9) sc_law.nd rfl (.inl rfl) (pf_n (pn_op op_addA snd_add (ph_f (pf_var (pv 9))) (ph_n (pn_lst (pad_cons (pf_tup (pad_cons pf_str (pad_cons (pf_var (pv 5)) (pad_cons (pf_var (pv 5)) pad_nil)))) (pad_cons (pf_tup (pad_cons pf_str (pad_cons (pf_var (pv 6)) (pad_cons (pf_var (pv 6)) pad_nil)))) (pad_cons (pf_tup (pad_cons pf_str (pad_cons (pf_tup (pad_cons pf_int (pad_cons pf_int pad_nil))) (pad_cons (pf_var (pv 6)) pad_nil)))) (pad_cons (pf_tup (pad_cons pf_str (pad_cons (pf_var (pv 5)) (pad_cons pf_non pad_nil)))) (pad_cons (pf_tup (pad_cons pf_str (pad_cons (pf_var (pv 5)) (pad_cons (pf_tup (pad_cons (pf_var (pv 3)) (pad_cons pf_int pad_nil))) pad_nil)))) pad_nil))))))))))
    (pds_one (pds_for PassesOwn.never rfl (pid_seq (pf_n (pn_op op_addA snd_add (ph_f (pf_var (pv 9))) (ph_n (pn_lst (pad_cons (pf_n (pn_slice (ph_f (pf_var (pv 7))) pod_none (pod_some pf_int))) (pad_cons (pf_n (pn_slice (ph_f (pf_var (pv 7))) (pod_some pf_int) pod_none)) (pad_cons pf_non (pad_cons (pf_tup (pad_cons pf_str (pad_cons (pf_n (pn_ix ix_seq snd_ix (ph_f (pf_var (pv 7))) (ph_n (pn_f pf_int)) (fun _ _ => rfl))) (pad_cons (pf_n (pn_ix ix_seq snd_ix (ph_f (pf_var (pv 7))) (ph_n (pn_f pf_int)) (fun _ _ => rfl))) pad_nil)))) pad_nil))))))))) (pgd_name (i := 10) sc_law.nd rfl (.inl rfl)) (pds_one (pds_if (ptd_not (ptd_tru (ph_n (pn_cd c_law_like hr h_law_like (by rfl) (pag_cons (pf_n (pn_cd c_is_between hr h_is_between (by rfl) (pag_cons (pf_var (pv 10)) (pag_cons (pf_var (pv 4)) (pag_cons (pf_var (pv 3)) pag_nil))))) (pag_cons (pf_n (pn_cd c_law_right hr h_law_right (by rfl) (pag_cons (pf_var (pv 4)) (pag_cons (pf_var (pv 3)) (pag_cons (pf_var (pv 10)) pag_nil))))) pag_nil)))))) (pds_one (pds_ret (pn_f pf_bl))) pds_nil))))))))))))))
    (pds_cons (pds_setF (i := 11) sc_law.nd rfl (.inl rfl) pf_int)
    (pds_cons (pds_for PassesOwn.never rfl (pid_rng1 (by rfl) T.b_range (pad_cons (pf_n (pn_op op_addA snd_add (ph_n (pn_f pf_int)) (ph_n (pn_cd c_law_draw hr h_law_draw (by rfl) (pag_conS (pv 1) (pag_cons pf_int pag_nil)))))) pad_nil)) (pgd_name (i := 12) sc_law.nd rfl (.inl rfl)) (pds_one (pds_setF (i := 11) sc_law.nd rfl (.inl rfl) (pf_n (pn_op op_addA snd_add (ph_n (pn_op op_mulA snd_mul (ph_f (pf_var (pv 11))) (ph_n (pn_f pf_int)))) (ph_n (pn_cd c_law_draw hr h_law_draw (by rfl) (pag_conS (pv 1) (pag_cons pf_int pag_nil)))))))))
    (pds_cons (pds_setF (i := 13) sc_law.nd rfl (.inl rfl) pf_int)
    (pds_cons (pds_for PassesOwn.never rfl (pid_rng1 (by rfl) T.b_range (pad_cons (pf_n (pn_op op_addA snd_add (ph_n (pn_f pf_int)) (ph_n (pn_cd c_law_draw hr h_law_draw (by rfl) (pag_conS (pv 1) (pag_cons pf_int pag_nil)))))) pad_nil)) (pgd_name (i := 12) sc_law.nd rfl (.inl rfl)) (pds_one (pds_setF (i := 13) sc_law.nd rfl (.inl rfl) (pf_n (pn_op op_addA snd_add (ph_n (pn_op op_mulA snd_mul (ph_f (pf_var (pv 13))) (ph_n (pn_f pf_int)))) (ph_n (pn_cd c_law_draw hr h_law_draw (by rfl) (pag_conS (pv 1) (pag_cons pf_int pag_nil)))))))))
    (pds_cons (pds_setF (i := 3) sc_law.nd rfl (.inl rfl) (pf_n (pn_cd c_law_draw hr h_law_draw (by rfl) (pag_conS (pv 1) (pag_cons pf_int pag_nil)))))
    (pds_cons (pds_for PassesOwn.never rfl (pid_rng1 (by rfl) T.b_range (pad_cons (pf_n (pn_cd c_law_draw hr h_law_draw (by rfl) (pag_conS (pv 1) (pag_cons pf_int pag_nil)))) pad_nil)) (pgd_name (i := 12) sc_law.nd rfl (.inl rfl)) (pds_one (pds_setF (i := 3) sc_law.nd rfl (.inl rfl) (pf_n (pn_op op_addA snd_add (ph_n (pn_op op_addA snd_add (ph_n (pn_op op_mulA snd_mul (ph_f (pf_var (pv 3))) (ph_n (pn_f pf_int)))) (ph_n (pn_f pf_int)))) (ph_n (pn_cd c_law_draw hr h_law_draw (by rfl) (pag_conS (pv 1) (pag_cons pf_int pag_nil)))))))))
    (pds_cons (pds_setF (i := 3) sc_law.nd rfl (.inl rfl) (pf_n (pn_op op_addA snd_add (ph_f (pf_var (pv 3))) (ph_n (pn_f pf_int)))))
    (pds_cons (pds_setF (i := 4) sc_law.nd rfl (.inl rfl) (pf_n (pn_cd c_law_ratio hr h_law_ratio (by rfl) (pag_cons (pf_var (pv 11)) (pag_cons (pf_var (pv 13)) pag_nil)))))
    (pds_cons (pds_setF (i := 7) sc_law.nd rfl (.inl rfl) (pf_n (pn_cd c_between hr h_between (by rfl) (pag_cons (pf_var (pv 4)) (pag_cons (pf_var (pv 3)) pag_nil)))))
    (pds_one (pds_ret (pn_and (pn_cd c_law_right hr h_law_right (by rfl) (pag_cons (pf_var (pv 4)) (pag_cons (pf_var (pv 3)) (pag_cons (pf_var (pv 7)) pag_nil)))) (pn_and (pn_cd c_law_like hr h_law_like (by rfl) (pag_cons (pf_tup (pad_cons (pf_n (pn_cd c_below hr h_below (by rfl) (pag_cons (pf_var (pv 4)) (pag_cons (pf_var (pv 3)) pag_nil)))) (pad_cons (pf_n (pn_cd c_above hr h_above (by rfl) (pag_cons (pf_var (pv 4)) (pag_cons (pf_var (pv 3)) pag_nil)))) pad_nil))) (pag_cons (pf_n (pn_slice (ph_f (pf_var (pv 7))) (pod_some pf_int) pod_none)) pag_nil))) (pn_one (pn_cmp op_isA snd_is (nomark _) (ph_n (pn_cd c_is_between hr h_is_between (by rfl) (pag_cons (pf_var (pv 7)) (pag_cons (pf_var (pv 4)) (pag_cons (pf_var (pv 3)) pag_nil))))) (ph_n (pn_f pf_bl)))))))))))))))))))) hS
end
end Lk13

namespace Lk13
open PySem L2 DL PyProof.Rows Md Sh
/-! ### between: the walk down the tree, many steps at once -/
/-- low = l, high = h; the fraction p/q is l*b + h*a -/
structure Br (p q n l0 l1 h0 h1 a b : Nat) : Prop where
  pp : p = l0 * b + h0 * a
  qq : q = l1 * b + h1 * a
  un : h0 * l1 = l0 * h1 + 1
  pa : 0 < a
  pb : 0 < b
  co : Nat.gcd a b = 1
  n0 : l0 ≤ n
  n1 : l1 ≤ n
  m0 : h0 ≤ n
  m1 : h1 ≤ n
  out : ¬ (p ≤ n ∧ q ≤ n)
theorem Br.ahead {p q n l0 l1 h0 h1 a b : Nat} (h : Br p q n l0 l1 h0 h1 a b) : p * l1 = l0 * q + a := by
  obtain ⟨pp, qq, un, _⟩ := h
  rw [pp, qq]
  have u1 : h0 * l1 * a = l0 * h1 * a + a := by rw [un, Nat.add_mul, Nat.one_mul]
  simp only [Nat.add_mul, Nat.mul_add, Nat.mul_assoc, Nat.mul_comm, Nat.mul_left_comm] at *
  omega
theorem Br.behind {p q n l0 l1 h0 h1 a b : Nat} (h : Br p q n l0 l1 h0 h1 a b) : h0 * q = p * h1 + b := by
  obtain ⟨pp, qq, un, _⟩ := h
  rw [pp, qq]
  have u1 : h0 * l1 * b = l0 * h1 * b + b := by rw [un, Nat.add_mul, Nat.one_mul]
  simp only [Nat.add_mul, Nat.mul_add, Nat.mul_assoc, Nat.mul_comm, Nat.mul_left_comm] at *
  omega
theorem gcd_sub_mul {a b k : Nat} (h : k * b ≤ a) : Nat.gcd (a - k * b) b = Nat.gcd a b := by
  obtain ⟨c, rfl⟩ : ∃ c, a = c + k * b := ⟨a - k * b, by omega⟩
  rw [Nat.add_sub_cancel, Nat.gcd_add_mul_right_left]
/-- k steps to the right -/
theorem Br.low {p q n l0 l1 h0 h1 a b k : Nat} (h : Br p q n l0 l1 h0 h1 a b) (hk : k * b ≤ a) (k0 : l0 + k * h0 ≤ n) (k1 : l1 + k * h1 ≤ n) : Br p q n (l0 + k * h0) (l1 + k * h1) h0 h1 (a - k * b) b := by
  obtain ⟨pp, qq, un, pa, pb, co, n0, n1, m0, m1, out⟩ := h
  have hco := gcd_sub_mul (k := k) hk
  obtain ⟨c, rfl⟩ : ∃ c, a = c + k * b := ⟨a - k * b, by omega⟩
  rw [Nat.add_sub_cancel] at *
  have e1 : p = (l0 + k * h0) * b + h0 * c := by
    simp only [Nat.add_mul, Nat.mul_add, Nat.mul_assoc, Nat.mul_comm, Nat.mul_left_comm] at *; omega
  have e2 : q = (l1 + k * h1) * b + h1 * c := by
    simp only [Nat.add_mul, Nat.mul_add, Nat.mul_assoc, Nat.mul_comm, Nat.mul_left_comm] at *; omega
  refine ⟨e1, e2, ?_, ?_, pb, by rw [hco]; exact co, k0, k1, m0, m1, out⟩
  · simp only [Nat.add_mul, Nat.mul_add, Nat.mul_assoc, Nat.mul_comm, Nat.mul_left_comm] at *; omega
  · rcases Nat.eq_zero_or_pos c with z | z
    · exfalso
      subst z
      rw [Nat.gcd_zero_left, co] at hco
      subst hco
      exact out ⟨by omega, by omega⟩
    · exact z
/-- k steps to the left -/
theorem Br.high {p q n l0 l1 h0 h1 a b k : Nat} (h : Br p q n l0 l1 h0 h1 a b) (hk : k * a ≤ b) (k0 : h0 + k * l0 ≤ n) (k1 : h1 + k * l1 ≤ n) : Br p q n l0 l1 (h0 + k * l0) (h1 + k * l1) a (b - k * a) := by
  obtain ⟨pp, qq, un, pa, pb, co, n0, n1, m0, m1, out⟩ := h
  have hco := gcd_sub_mul (k := k) hk
  rw [Nat.gcd_comm b a, co] at hco
  obtain ⟨c, rfl⟩ : ∃ c, b = c + k * a := ⟨b - k * a, by omega⟩
  rw [Nat.add_sub_cancel] at *
  have e1 : p = l0 * c + (h0 + k * l0) * a := by
    simp only [Nat.add_mul, Nat.mul_add, Nat.mul_assoc, Nat.mul_comm, Nat.mul_left_comm] at *; omega
  have e2 : q = l1 * c + (h1 + k * l1) * a := by
    simp only [Nat.add_mul, Nat.mul_add, Nat.mul_assoc, Nat.mul_comm, Nat.mul_left_comm] at *; omega
  refine ⟨e1, e2, ?_, pa, ?_, by rw [Nat.gcd_comm]; exact hco, n0, n1, k0, k1, out⟩
  · simp only [Nat.add_mul, Nat.mul_add, Nat.mul_assoc, Nat.mul_comm, Nat.mul_left_comm] at *; omega
  · rcases Nat.eq_zero_or_pos c with z | z
    · exfalso
      subst z
      rw [Nat.gcd_zero_left] at hco
      subst hco
      exact out ⟨by omega, by omega⟩
    · exact z
/-- how often at most -/
def often (n o0 o1 s0 s1 k : Nat) : Nat :=
  let k1 := if 0 < s0 then (if (n - o0) / s0 < k then (n - o0) / s0 else k) else k
  if 0 < s1 then (if (n - o1) / s1 < k1 then (n - o1) / s1 else k1) else k1
theorem often_le {n o0 o1 s0 s1 k : Nat} (h0 : o0 ≤ n) (h1 : o1 ≤ n) : often n o0 o1 s0 s1 k ≤ k ∧ o0 + often n o0 o1 s0 s1 k * s0 ≤ n ∧ o1 + often n o0 o1 s0 s1 k * s1 ≤ n := by
  have key : ∀ o s j : Nat, o ≤ n → 0 < s → j ≤ (n - o) / s → o + j * s ≤ n := fun o s j h hs hj => by
    have := (Nat.le_div_iff_mul_le hs).mp hj
    omega
  have kz : ∀ o s j : Nat, o ≤ n → ¬ 0 < s → o + j * s ≤ n := fun o s j h hs => by
    have : s = 0 := by omega
    subst this
    simpa using h
  unfold often
  dsimp only
  by_cases c0 : 0 < s0 <;> by_cases c1 : 0 < s1 <;> simp only [c0, c1, if_true, if_false]
  · split <;> split <;> refine ⟨by omega, ?_, ?_⟩ <;> first
      | exact key _ _ _ h0 c0 (by omega)
      | exact key _ _ _ h1 c1 (by omega)
  · split <;> refine ⟨by omega, ?_, kz _ _ _ h1 c1⟩ <;> exact key _ _ _ h0 c0 (by omega)
  · split <;> refine ⟨by omega, kz _ _ _ h0 c0, ?_⟩ <;> exact key _ _ _ h1 c1 (by omega)
  · exact ⟨Nat.le_refl _, kz _ _ _ h0 c0, kz _ _ _ h1 c1⟩
theorem often_pos {n o0 o1 s0 s1 k : Nat} (hk : 0 < k) (h0 : o0 + s0 ≤ n) (h1 : o1 + s1 ≤ n) : 0 < often n o0 o1 s0 s1 k := by
  have key : ∀ o s : Nat, o + s ≤ n → 0 < s → 0 < (n - o) / s := fun o s h hs => Nat.div_pos (by omega) hs
  unfold often
  dsimp only
  by_cases c0 : 0 < s0 <;> by_cases c1 : 0 < s1 <;> simp only [c0, c1, if_true, if_false]
  · have := key _ _ h0 c0
    have := key _ _ h1 c1
    split <;> split <;> omega
  · have := key _ _ h0 c0
    split <;> omega
  · have := key _ _ h1 c1
    split <;> omega
  · exact hk
/-- what lies strictly between neighbours is no simpler than their middle -/
theorem Br.gap {l0 l1 h0 h1 r s : Nat} (un : h0 * l1 = l0 * h1 + 1) (g1 : l0 * s < r * l1) (g2 : r * h1 < h0 * s) : l0 + h0 ≤ r ∧ l1 + h1 ≤ s := by
  obtain ⟨x, hx⟩ : ∃ x, r * l1 = l0 * s + x + 1 := ⟨r * l1 - l0 * s - 1, by omega⟩
  obtain ⟨y, hy⟩ : ∃ y, h0 * s = r * h1 + y + 1 := ⟨h0 * s - r * h1 - 1, by omega⟩
  have e1 : r = l0 * (y + 1) + h0 * (x + 1) := by
    have t1 : r * l1 * h0 = (l0 * s + x + 1) * h0 := by rw [hx]
    have t2 : h0 * s * l0 = (r * h1 + y + 1) * l0 := by rw [hy]
    have t3 : h0 * l1 * r = (l0 * h1 + 1) * r := by rw [un]
    simp only [Nat.add_mul, Nat.mul_add, Nat.mul_assoc, Nat.mul_comm, Nat.mul_left_comm] at *
    omega
  have e2 : s = l1 * (y + 1) + h1 * (x + 1) := by
    have t1 : r * l1 * h1 = (l0 * s + x + 1) * h1 := by rw [hx]
    have t2 : h0 * s * l1 = (r * h1 + y + 1) * l1 := by rw [hy]
    have t3 : h0 * l1 * s = (l0 * h1 + 1) * s := by rw [un]
    simp only [Nat.add_mul, Nat.mul_add, Nat.mul_assoc, Nat.mul_comm, Nat.mul_left_comm] at *
    omega
  have z1 : l0 ≤ l0 * (y + 1) := Nat.le_mul_of_pos_right _ (by omega)
  have z2 : h0 ≤ h0 * (x + 1) := Nat.le_mul_of_pos_right _ (by omega)
  have z3 : l1 ≤ l1 * (y + 1) := Nat.le_mul_of_pos_right _ (by omega)
  have z4 : h1 ≤ h1 * (x + 1) := Nat.le_mul_of_pos_right _ (by omega)
  omega
end Lk13

namespace Lk13
open PySem L2 DL PyProof.Rows Md Sh
def pN (a b : Nat) : D := .tuple [.int (a : Int), .int (b : Int)]
/-- a number well within reach -/
def lim : Nat := 2 ^ 700
theorem big {n : Nat} (h : n < lim) : Bg (n : Int) := bg_le (n := 700) (by rw [Int.natAbs_natCast]; exact h) (by decide)
theorem divOk_n {q : Nat} (h : 0 < q) (h2 : q < lim) : DivOk (q : Int) := ⟨by omega, Nat.lt_of_lt_of_le (by rw [Int.natAbs_natCast]; exact h2) (pow_mono2 (a := 700) (by decide))⟩
/-! ### is it a ratio within n -/
noncomputable def S_is_integer : Sf
  | [.f (.int _)] => .ok (.f (.bool true), [])
  | _ => .no
theorem sem_is_integer : ∀ cs c outs, S_is_integer cs = .ok (c, outs) → cs.length = 1 ∧ runD 1 m_is_integer cs = .ok (c, outs) := by
  intro cs c outs h
  unfold S_is_integer at h
  split at h
  · cases h
    exact ⟨rfl, by simp [runD_r, startE, m_is_integer]⟩
  · cases h
noncomputable def S_is_ratio : Sf
  | [.f .none] => .ok (.f (.bool false), [])
  | [.f (.tuple [.int a, .int b])] => .ok (.f (.bool (decide (1 ≤ b) && ((Int.gcd a b : Int) == 1))), [])
  | _ => .no
theorem is_ratio_p (a b : Int) : runD 1 (m_is_ratio S_is_integer) [.f (.tuple [.int a, .int b])] = .ok (.f (.bool (decide (1 ≤ b) && ((Int.gcd a b : Int) == 1))), []) := by
  have h : ∀ i, S_is_integer [.f (.int i)] = .ok (.f (.bool true), []) := fun _ => rfl
  by_cases h1 : 1 ≤ b
  · simp [runD_r, startE, m_is_ratio, h, h1, Int.gcd]
  · simp [runD_r, startE, m_is_ratio, h, h1]
theorem sem_is_ratio : ∀ cs c outs, S_is_ratio cs = .ok (c, outs) → cs.length = 1 ∧ runD 1 (m_is_ratio S_is_integer) cs = .ok (c, outs) := by
  intro cs c outs h
  unfold S_is_ratio at h
  split at h
  · cases h
    exact ⟨rfl, by simp [runD_r, startE, m_is_ratio]⟩
  · cases h
    exact ⟨rfl, is_ratio_p _ _⟩
  · cases h
def wN (a b n : Int) : Bool := decide (0 ≤ a ∧ a ≤ n ∧ 1 ≤ b ∧ b ≤ n ∧ Int.gcd a b = 1)
noncomputable def S_within : Sf
  | [.f .none, .f (.int n)] => .ok (.f (.bool false), [])
  | [.f (.tuple [.int a, .int b]), .f (.int n)] => if n < 2 ^ 150 then .ok (.f (.bool (wN a b n)), []) else .no
  | _ => .no
theorem within_p (a b n : Int) : runD 2 (m_is_within S_is_ratio) [.f (.tuple [.int a, .int b]), .f (.int n)] = .ok (.f (.bool (wN a b n)), []) := by
  have h : S_is_ratio [.f (.tuple [.int a, .int b])] = .ok (.f (.bool (decide (1 ≤ b) && ((Int.gcd a b : Int) == 1))), []) := rfl
  unfold wN
  by_cases h1 : 1 ≤ b
  · by_cases h2 : Int.gcd a b = 1
    · have h2' : ((Int.gcd a b : Int) == 1) = true := by rw [h2]; rfl
      rw [decide_eq_true h1, h2'] at h
      by_cases h3 : 0 ≤ a
      · by_cases h4 : a ≤ n
        · simp [runD_r, startE, m_is_within, h, h1, h2, h3, h4]
        · simp [runD_r, startE, m_is_within, h, h1, h2, h3, h4]
      · simp [runD_r, startE, m_is_within, h, h1, h2, h3]
    · have h2' : ((Int.gcd a b : Int) == 1) = false := by rw [beq_eq_false_iff_ne]; omega
      rw [decide_eq_true h1, h2'] at h
      simp [runD_r, startE, m_is_within, h, h2]
  · rw [decide_eq_false h1] at h
    simp [runD_r, startE, m_is_within, h, h1]
theorem sem_is_within : ∀ cs c outs, S_within cs = .ok (c, outs) → cs.length = 2 ∧ runD 2 (m_is_within S_is_ratio) cs = .ok (c, outs) := by
  intro cs c outs h
  unfold S_within at h
  split at h
  · cases h
    have h : S_is_ratio [.f .none] = .ok (.f (.bool false), []) := rfl
    exact ⟨rfl, by simp [runD_r, startE, m_is_within, h]⟩
  · obtain ⟨_, h⟩ := ite_ok h
    cases h
    exact ⟨rfl, within_p _ _ _⟩
  · cases h
theorem lwithin_p {a b n : Int} (hn : n < 2 ^ 150) : runD 2 (m_law_is_within S_number S_gcd) [.f (.tuple [.int a, .int b]), .f (.int n)] = .ok (.f (.bool (wN a b n)), []) := by
  have k1 : S_number [.f (.int a), .f (.int 0), .f (.int n)] = .ok (.f (.bool (decide (0 ≤ a) && decide (a ≤ n))), []) := rfl
  have k2 : S_number [.f (.int b), .f (.int 1), .f (.int n)] = .ok (.f (.bool (decide (1 ≤ b) && decide (b ≤ n))), []) := rfl
  unfold wN
  by_cases h1 : 0 ≤ a ∧ a ≤ n
  · rw [decide_eq_true h1.1, decide_eq_true h1.2] at k1
    by_cases h2 : 1 ≤ b ∧ b ≤ n
    · rw [decide_eq_true h2.1, decide_eq_true h2.2] at k2
      have k3 := gcd_r (a := a) (b := b) h1.1 (by omega) (by omega)
      have e : ((Int.gcd a b : Int) == 1) = decide (Int.gcd a b = 1) := by
        by_cases hg : Int.gcd a b = 1
        · rw [hg]; rfl
        · rw [decide_eq_false hg, beq_eq_false_iff_ne]; omega
      simp [runD_r, startE, m_law_is_within, k1, k2, k3, h1, h2, e]
    · have : (decide (1 ≤ b) && decide (b ≤ n)) = false := by
        rw [Bool.and_eq_false_iff, decide_eq_false_iff_not, decide_eq_false_iff_not]; omega
      rw [this] at k2
      have e : ¬ (1 ≤ b ∧ b ≤ n ∧ Int.gcd a b = 1) := fun z => h2 ⟨z.1, z.2.1⟩
      simp [runD_r, startE, m_law_is_within, k1, k2, h1, e]
  · have : (decide (0 ≤ a) && decide (a ≤ n)) = false := by
      rw [Bool.and_eq_false_iff, decide_eq_false_iff_not, decide_eq_false_iff_not]; omega
    rw [this] at k1
    have e : ¬ (0 ≤ a ∧ a ≤ n ∧ 1 ≤ b ∧ b ≤ n ∧ Int.gcd a b = 1) := fun z => h1 ⟨z.1, z.2.1⟩
    simp only [decide_eq_false e]
    simp [runD_r, startE, m_law_is_within, k1]
theorem sem_law_is_within : ∀ cs c outs, S_within cs = .ok (c, outs) → cs.length = 2 ∧ runD 2 (m_law_is_within S_number S_gcd) cs = .ok (c, outs) := by
  intro cs c outs h
  unfold S_within at h
  split at h
  · cases h
    exact ⟨rfl, by simp [runD_r, startE, m_law_is_within]⟩
  · obtain ⟨hn, h⟩ := ite_ok h
    cases h
    exact ⟨rfl, lwithin_p hn⟩
  · cases h
/-! ### advanced -/
theorem adv_run {n o0 o1 s0 s1 k : Nat} (h0 : o0 ≤ n) (h1 : o1 ≤ n) (l0 : s0 < lim) (l1 : s1 < lim) (lk : k < lim) : runD 6 m_advanced [.f (pN o0 o1), .f (pN s0 s1), .f (.int (n : Int)), .f (.int (k : Int))] = .ok (.f (pN (o0 + often n o0 o1 s0 s1 k * s0) (o1 + often n o0 o1 s0 s1 k * s1)), []) := by
  have e0 : (n : Int) - (o0 : Int) = ((n - o0 : Nat) : Int) := by omega
  have e1 : (n : Int) - (o1 : Int) = ((n - o1 : Nat) : Int) := by omega
  have step : ∀ (o s j : Nat) (x y : D) (c d : Option D) (ds : List D), o ≤ n → s < lim → loopL (tgT [tgN 4, tgN 5]) m_advanced_b1 (.tuple [.int (o : Int), .int (s : Int)] :: ds) [some (.f x), some (.f y), some (.f (.int (n : Int))), some (.f (.int (j : Int))), c.map .f, d.map .f] = loopL (tgT [tgN 4, tgN 5]) m_advanced_b1 ds [some (.f x), some (.f y), some (.f (.int (n : Int))), some (.f (.int (((if 0 < s then (if (n - o) / s < j then (n - o) / s else j) else j) : Nat) : Int))), some (.f (.int (o : Int))), some (.f (.int (s : Int)))] := by
    intro o s j x y c d ds ho hs
    have e : (n : Int) - (o : Int) = ((n - o : Nat) : Int) := by omega
    have t : tgT [tgN 4, tgN 5] (.tuple [.int (o : Int), .int (s : Int)]) [some (.f x), some (.f y), some (.f (.int (n : Int))), some (.f (.int (j : Int))), c.map .f, d.map .f] = .ok [some (.f x), some (.f y), some (.f (.int (n : Int))), some (.f (.int (j : Int))), some (.f (.int (o : Int))), some (.f (.int (s : Int)))] := by simp
    by_cases hs0 : 0 < s
    · have hd := divOk_n hs0 hs
      have hsI : (0 : Int) < (s : Int) := by omega
      have ed : ((n - o : Nat) : Int) / (s : Int) = (((n - o) / s : Nat) : Int) := (Int.natCast_ediv _ _).symm
      rw [if_pos hs0]
      by_cases hlt : (n - o) / s < j
      · have hltI : (((n - o) / s : Nat) : Int) < (j : Int) := by omega
        rw [if_pos hlt]
        exact loop_nx t (by simp [m_advanced_b1, hs0, e, fdivD_i hd, ed, hlt, -Int.natCast_ediv])
      · rw [if_neg hlt]
        exact loop_nx t (by simp [m_advanced_b1, hs0, e, fdivD_i hd, ed, hlt, -Int.natCast_ediv])
    · rw [if_neg hs0]
      exact loop_nx t (by simp [m_advanced_b1, hs0])
  obtain ⟨K, hK⟩ : ∃ K, K = often n o0 o1 s0 s1 k := ⟨_, rfl⟩
  obtain ⟨k1, hk1⟩ : ∃ k1 : Nat, k1 = if 0 < s0 then (if (n - o0) / s0 < k then (n - o0) / s0 else k) else k := ⟨_, rfl⟩
  have hK' : K = if 0 < s1 then (if (n - o1) / s1 < k1 then (n - o1) / s1 else k1) else k1 := by rw [hK, hk1]; rfl
  have g1 := step o0 s0 k (pN o0 o1) (pN s0 s1) none none [.tuple [.int (o1 : Int), .int (s1 : Int)]] h0 l0
  rw [← hk1] at g1
  have g2 := step o1 s1 k1 (pN o0 o1) (pN s0 s1) (some (.int (o0 : Int))) (some (.int (s0 : Int))) [] h1 l1
  rw [← hK'] at g2
  have hlp : loopL (tgT [tgN 4, tgN 5]) m_advanced_b1 [.tuple [.int (o0 : Int), .int (s0 : Int)], .tuple [.int (o1 : Int), .int (s1 : Int)]] [some (.f (pN o0 o1)), some (.f (pN s0 s1)), some (.f (.int (n : Int))), some (.f (.int (k : Int))), none, none] = .nx [some (.f (pN o0 o1)), some (.f (pN s0 s1)), some (.f (.int (n : Int))), some (.f (.int (K : Int))), some (.f (.int (o1 : Int))), some (.f (.int (s1 : Int)))] := by
    rw [show (none : Option Ce) = Option.map Ce.f none from rfl, g1]
    exact g2
  have hKl : K ≤ k := by rw [hK]; exact (often_le h0 h1).1
  have m1 : MulOk (K : Int) (s0 : Int) := bg_mul (big (by omega)) (big l0)
  have m2 : MulOk (K : Int) (s1 : Int) := bg_mul (big (by omega)) (big l1)
  rw [← hK]
  have hz : ziA (pN o0 o1) (pN s0 s1) = .ok [.tuple [.int (o0 : Int), .int (s0 : Int)], .tuple [.int (o1 : Int), .int (s1 : Int)]] := rfl
  unfold pN at *
  simp [runD_r, startE, m_advanced, hlp, hz, mulD_i m1, mulD_i m2, ziD]
end Lk13

namespace Lk13
open PySem L2 DL PyProof.Rows Md Sh
structure Adv (n o0 o1 s0 s1 k : Nat) : Prop where
  h0 : o0 ≤ n
  h1 : o1 ≤ n
  l0 : s0 < lim
  l1 : s1 < lim
  lk : k < lim
noncomputable def S_advanced : Sf := specR (fun cs => ∃ n o0 o1 s0 s1 k, Adv n o0 o1 s0 s1 k ∧ cs = [.f (pN o0 o1), .f (pN s0 s1), .f (.int (n : Int)), .f (.int (k : Int))]) 6 m_advanced
theorem sem_advanced : ∀ cs c outs, S_advanced cs = .ok (c, outs) → cs.length = 4 ∧ runD 6 m_advanced cs = .ok (c, outs) := specR_sem fun cs ⟨n, o0, o1, s0, s1, k, _, h⟩ => by rw [h]; rfl
theorem adv_r {n o0 o1 s0 s1 k : Nat} (h : Adv n o0 o1 s0 s1 k) : S_advanced [.f (pN o0 o1), .f (pN s0 s1), .f (.int (n : Int)), .f (.int (k : Int))] = .ok (.f (pN (o0 + often n o0 o1 s0 s1 k * s0) (o1 + often n o0 o1 s0 s1 k * s1)), []) := by
  unfold S_advanced
  rw [specR_ok ⟨n, o0, o1, s0, s1, k, h, rfl⟩, adv_run h.h0 h.h1 h.l0 h.l1 h.lk]
/-! ### between -/
def eK (p q n l0 l1 h0 h1 : Nat) (x : D) (c d : Option D) : En := [some (.f x), some (.f (.int (n : Int))), some (.f (.int (p : Int))), some (.f (.int (q : Int))), some (.f (pN l0 l1)), some (.f (pN h0 h1)), c.map .f, d.map .f]
theorem bt_test {p q n l0 l1 h0 h1 : Nat} {x : D} {c d : Option D} : m_between_t1 (eK p q n l0 l1 h0 h1 x c d) = .ok (decide (l0 + h0 ≤ n) && decide (l1 + h1 ≤ n), eK p q n l0 l1 h0 h1 x c d) := by
  unfold eK pN
  by_cases h : l0 + h0 ≤ n
  · have hI : (l0 : Int) + (h0 : Int) ≤ (n : Int) := by omega
    have e : decide ((l1 : Int) + (h1 : Int) ≤ (n : Int)) = decide (l1 + h1 ≤ n) := by
      congr 1
      exact propext ⟨fun z => by omega, fun z => by omega⟩
    simp [m_between_t1, h, hI, e]
  · have hI : ¬ (l0 : Int) + (h0 : Int) ≤ (n : Int) := by omega
    simp [m_between_t1, h, hI]
theorem bt_low {p q n l0 l1 h0 h1 a b k : Nat} {x : D} {c d : Option D} (ea : (p : Int) * (l1 : Int) - (l0 : Int) * (q : Int) = (a : Int)) (eb : (h0 : Int) * (q : Int) - (p : Int) * (h1 : Int) = (b : Int)) (m1 : MulOk (p : Int) (l1 : Int)) (m2 : MulOk (l0 : Int) (q : Int)) (m3 : MulOk (h0 : Int) (q : Int)) (m4 : MulOk (p : Int) (h1 : Int)) (hd : DivOk (b : Int)) (hab : b < a)
    (hk : S_advanced [.f (pN l0 l1), .f (pN h0 h1), .f (.int (n : Int)), .f (.int ((a / b : Nat) : Int))] = .ok (.f (pN (l0 + k * h0) (l1 + k * h1)), [])) : m_between_w1 S_advanced (eK p q n l0 l1 h0 h1 x c d) = .nx (eK p q n (l0 + k * h0) (l1 + k * h1) h0 h1 x (some (.int (a : Int))) (some (.int (b : Int)))) := by
  have ed : (a : Int) / (b : Int) = ((a / b : Nat) : Int) := (Int.natCast_ediv _ _).symm
  have habI : (b : Int) < (a : Int) := by omega
  unfold eK
  generalize hK : pN (l0 + k * h0) (l1 + k * h1) = K at *
  unfold pN at *
  simp [m_between_w1, mulD_i m1, mulD_i m2, mulD_i m3, mulD_i m4, ea, eb, hab, habI, fdivD_i hd, ed, hk, -Int.natCast_ediv]
theorem bt_high {p q n l0 l1 h0 h1 a b k : Nat} {x : D} {c d : Option D} (ea : (p : Int) * (l1 : Int) - (l0 : Int) * (q : Int) = (a : Int)) (eb : (h0 : Int) * (q : Int) - (p : Int) * (h1 : Int) = (b : Int)) (m1 : MulOk (p : Int) (l1 : Int)) (m2 : MulOk (l0 : Int) (q : Int)) (m3 : MulOk (h0 : Int) (q : Int)) (m4 : MulOk (p : Int) (h1 : Int)) (hd : DivOk (a : Int)) (hab : ¬ b < a)
    (hk : S_advanced [.f (pN h0 h1), .f (pN l0 l1), .f (.int (n : Int)), .f (.int ((b / a : Nat) : Int))] = .ok (.f (pN (h0 + k * l0) (h1 + k * l1)), [])) : m_between_w1 S_advanced (eK p q n l0 l1 h0 h1 x c d) = .nx (eK p q n l0 l1 (h0 + k * l0) (h1 + k * l1) x (some (.int (a : Int))) (some (.int (b : Int)))) := by
  have ed : (b : Int) / (a : Int) = ((b / a : Nat) : Int) := (Int.natCast_ediv _ _).symm
  have habI : ¬ (b : Int) < (a : Int) := by omega
  unfold eK
  generalize hK : pN (h0 + k * l0) (h1 + k * l1) = K at *
  unfold pN at *
  simp [m_between_w1, mulD_i m1, mulD_i m2, mulD_i m3, mulD_i m4, ea, eb, hab, habI, fdivD_i hd, ed, hk, -Int.natCast_ediv]
theorem lt_lim {n k : Nat} (h : n < 2 ^ k) (hk : k ≤ 700) : n < lim := Nat.lt_of_lt_of_le h (Nat.pow_le_pow_right (by decide) hk)
theorem mul_lim {a b : Nat} (h : a < 2 ^ 150) (h2 : b ≤ 2 ^ 150) : a * b < lim := by
  have h3 : a * b ≤ 2 ^ 150 * 2 ^ 150 := Nat.mul_le_mul (Nat.le_of_lt h) h2
  rw [← Nat.pow_add] at h3
  exact Nat.lt_of_le_of_lt h3 (Nat.pow_lt_pow_right (by decide) (by decide))
theorem bt_while {p q n : Nat} {x : D} (hp : p < 2 ^ 150) (hq : q < 2 ^ 150) (hn : n < 2 ^ 150) : ∀ (m l0 l1 h0 h1 a b : Nat) (c d : Option D), 4 * n - (l0 + l1 + h0 + h1) ≤ m → Br p q n l0 l1 h0 h1 a b →
    ∃ (l0' l1' h0' h1' a' b' : Nat) (c' d' : Option D), sWhile m_between_t1 (m_between_w1 S_advanced) (eK p q n l0 l1 h0 h1 x c d) = .nx (eK p q n l0' l1' h0' h1' x c' d') ∧ Br p q n l0' l1' h0' h1' a' b' ∧ (n < l0' + h0' ∨ n < l1' + h1') := by
  intro m
  induction m with
  | zero =>
    intro l0 l1 h0 h1 a b c d hm B
    refine ⟨l0, l1, h0, h1, a, b, c, d, while_f ?_, B, ?_⟩
    · rw [bt_test]
      have : ¬ (l0 + h0 ≤ n ∧ l1 + h1 ≤ n) := by
        have := B.un
        rintro ⟨z1, z2⟩
        have hl : 0 < l1 := by
          rcases Nat.eq_zero_or_pos l1 with z | z
          · rw [z, Nat.mul_zero] at this; omega
          · exact z
        omega
      rw [← Bool.decide_and, decide_eq_false this]
    · have := B.un
      have hl : 0 < l1 := by
        rcases Nat.eq_zero_or_pos l1 with z | z
        · rw [z, Nat.mul_zero] at this; omega
        · exact z
      omega
  | succ m ih =>
    intro l0 l1 h0 h1 a b c d hm B
    by_cases ht : l0 + h0 ≤ n ∧ l1 + h1 ≤ n
    · have t := bt_test (p := p) (q := q) (n := n) (l0 := l0) (l1 := l1) (h0 := h0) (h1 := h1) (x := x) (c := c) (d := d)
      rw [decide_eq_true ht.1, decide_eq_true ht.2] at t
      have un := B.un
      have hl : 0 < l1 := by
        rcases Nat.eq_zero_or_pos l1 with z | z
        · rw [z, Nat.mul_zero] at un; omega
        · exact z
      have hh : 0 < h0 := by
        rcases Nat.eq_zero_or_pos h0 with z | z
        · rw [z, Nat.zero_mul] at un; omega
        · exact z
      have n0 := B.n0
      have n1 := B.n1
      have m0 := B.m0
      have m1' := B.m1
      have pa := B.pa
      have pb := B.pb
      have Ea := B.ahead
      have Eb := B.behind
      have ea : (p : Int) * (l1 : Int) - (l0 : Int) * (q : Int) = (a : Int) := by
        have : ((p * l1 : Nat) : Int) = ((l0 * q + a : Nat) : Int) := by rw [Ea]
        rw [Int.natCast_add, Int.natCast_mul, Int.natCast_mul] at this
        omega
      have eb : (h0 : Int) * (q : Int) - (p : Int) * (h1 : Int) = (b : Int) := by
        have : ((h0 * q : Nat) : Int) = ((p * h1 + b : Nat) : Int) := by rw [Eb]
        rw [Int.natCast_add, Int.natCast_mul, Int.natCast_mul] at this
        omega
      have k1 : MulOk (p : Int) (l1 : Int) := bg_mul (big (lt_lim hp (by decide))) (big (lt_lim (k := 150) (by omega) (by decide)))
      have k2 : MulOk (l0 : Int) (q : Int) := bg_mul (big (lt_lim (k := 150) (by omega) (by decide))) (big (lt_lim hq (by decide)))
      have k3 : MulOk (h0 : Int) (q : Int) := bg_mul (big (lt_lim (k := 150) (by omega) (by decide))) (big (lt_lim hq (by decide)))
      have k4 : MulOk (p : Int) (h1 : Int) := bg_mul (big (lt_lim hp (by decide))) (big (lt_lim (k := 150) (by omega) (by decide)))
      have la : a < lim := by
        have := mul_lim hp (show l1 ≤ 2 ^ 150 by omega)
        omega
      have lb : b < lim := by
        have := mul_lim hq (show h0 ≤ 2 ^ 150 by omega)
        rw [Nat.mul_comm] at this
        omega
      have ln : n < lim := lt_lim hn (by decide)
      by_cases hab : b < a
      · have hk1 : 0 < a / b := Nat.div_pos (by omega) pb
        have hkl : a / b < lim := Nat.lt_of_le_of_lt (Nat.div_le_self _ _) la
        obtain ⟨o1, o2, o3⟩ := often_le (n := n) (o0 := l0) (o1 := l1) (s0 := h0) (s1 := h1) (k := a / b) n0 n1
        have o4 := often_pos (n := n) (o0 := l0) (o1 := l1) (s0 := h0) (s1 := h1) hk1 ht.1 ht.2
        have hadv := adv_r (n := n) (o0 := l0) (o1 := l1) (s0 := h0) (s1 := h1) (k := a / b) ⟨n0, n1, by omega, by omega, hkl⟩
        generalize often n l0 l1 h0 h1 (a / b) = k at *
        have hkb : k * b ≤ a := Nat.le_trans (Nat.mul_le_mul_right b o1) (Nat.div_mul_le_self a b)
        have B' := B.low hkb o2 o3
        have hw := bt_low (x := x) (c := c) (d := d) ea eb k1 k2 k3 k4 (divOk_n pb lb) hab hadv
        have g1 : h0 ≤ k * h0 := Nat.le_mul_of_pos_left _ o4
        obtain ⟨l0', l1', h0', h1', a', b', c', d', g, g2⟩ := ih _ _ _ _ _ _ (some (.int (a : Int))) (some (.int (b : Int))) (by omega) B'
        exact ⟨l0', l1', h0', h1', a', b', c', d', by rw [while_t t hw, g], g2⟩
      · have hk1 : 0 < b / a := Nat.div_pos (by omega) pa
        have hkl : b / a < lim := Nat.lt_of_le_of_lt (Nat.div_le_self _ _) lb
        obtain ⟨o1, o2, o3⟩ := often_le (n := n) (o0 := h0) (o1 := h1) (s0 := l0) (s1 := l1) (k := b / a) m0 m1'
        have o4 := often_pos (n := n) (o0 := h0) (o1 := h1) (s0 := l0) (s1 := l1) hk1 (by omega) (by omega)
        have hadv := adv_r (n := n) (o0 := h0) (o1 := h1) (s0 := l0) (s1 := l1) (k := b / a) ⟨m0, m1', by omega, by omega, hkl⟩
        generalize often n h0 h1 l0 l1 (b / a) = k at *
        have hka : k * a ≤ b := Nat.le_trans (Nat.mul_le_mul_right a o1) (Nat.div_mul_le_self b a)
        have B' := B.high hka o2 o3
        have hw := bt_high (x := x) (c := c) (d := d) ea eb k1 k2 k3 k4 (divOk_n pa la) hab hadv
        have g1 : l1 ≤ k * l1 := Nat.le_mul_of_pos_left _ o4
        obtain ⟨l0', l1', h0', h1', a', b', c', d', g, g2⟩ := ih _ _ _ _ _ _ (some (.int (a : Int))) (some (.int (b : Int))) (by omega) B'
        exact ⟨l0', l1', h0', h1', a', b', c', d', by rw [while_t t hw, g], g2⟩
    · refine ⟨l0, l1, h0, h1, a, b, c, d, while_f ?_, B, by omega⟩
      rw [bt_test, ← Bool.decide_and, decide_eq_false ht]
end Lk13

namespace Lk13
open PySem L2 DL PyProof.Rows Md Sh
def encH : Option (Nat × Nat) → D
  | none => .none
  | some h => pN h.1 h.2
/-- what between tells -/
inductive Bt (p q n : Nat) : Nat × Nat → Option (Nat × Nat) → Prop where
  | same : p ≤ n → q ≤ n → Bt p q n (p, q) (some (p, q))
  | top {l0 l1 h0 a b : Nat} : Br p q n l0 l1 h0 0 a b → (n < l0 + h0 ∨ n < l1 + 0) → Bt p q n (l0, l1) none
  | mid {l0 l1 h0 h1 a b : Nat} : Br p q n l0 l1 h0 h1 a b → 0 < h1 → (n < l0 + h0 ∨ n < l1 + h1) → Bt p q n (l0, l1) (some (h0, h1))
def tellD (lo : Nat × Nat) (hi : Option (Nat × Nat)) : D := .tuple [.str "between", pN lo.1 lo.2, encH hi]
structure Dm (p q n : Nat) : Prop where
  q0 : 0 < q
  n0 : 0 < n
  co : Nat.gcd p q = 1
  pl : p < 2 ^ 150
  ql : q < 2 ^ 150
  nl : n < 2 ^ 150
theorem bt_same {p q n : Nat} (h : p ≤ n ∧ q ≤ n) : runD 8 (m_between S_advanced) [.f (pN p q), .f (.int (n : Int))] = .ok (.f (tellD (p, q) (some (p, q))), []) := by
  have h1 : (p : Int) ≤ (n : Int) := by omega
  have h2 : (q : Int) ≤ (n : Int) := by omega
  simp [runD_r, startE, m_between, pN, tellD, encH, h, h1, h2]
theorem bt_fin {p q n l0 l1 h0 h1 : Nat} {c d : Option D} (h : ¬ (p ≤ n ∧ q ≤ n)) (g : sWhile m_between_t1 (m_between_w1 S_advanced) [some (.f (pN p q)), some (.f (.int (n : Int))), some (.f (.int (p : Int))), some (.f (.int (q : Int))), some (.f (.tuple [.int 0, .int 1])), some (.f (.tuple [.int 1, .int 0])), none, none] = .nx [some (.f (pN p q)), some (.f (.int (n : Int))), some (.f (.int (p : Int))), some (.f (.int (q : Int))), some (.f (pN l0 l1)), some (.f (pN h0 h1)), c.map .f, d.map .f]) :
    runD 8 (m_between S_advanced) [.f (pN p q), .f (.int (n : Int))] = .ok (.f (tellD (l0, l1) (if h1 = 0 then none else some (h0, h1))), []) := by
  unfold pN at *
  by_cases hp : p ≤ n
  · have hq : ¬ q ≤ n := fun z => h ⟨hp, z⟩
    by_cases hz : h1 = 0
    · subst hz
      simp [runD_r, startE, m_between, tellD, encH, hp, hq, g, pN]
    · simp [runD_r, startE, m_between, tellD, encH, hp, hq, g, pN, hz]
  · by_cases hz : h1 = 0
    · subst hz
      simp [runD_r, startE, m_between, tellD, encH, hp, g, pN]
    · simp [runD_r, startE, m_between, tellD, encH, hp, g, pN, hz]
theorem between_run {p q n : Nat} (D : Dm p q n) : ∃ lo hi, Bt p q n lo hi ∧ runD 8 (m_between S_advanced) [.f (pN p q), .f (.int (n : Int))] = .ok (.f (tellD lo hi), []) := by
  obtain ⟨q0, n0, co, pl, ql, nl⟩ := D
  by_cases h : p ≤ n ∧ q ≤ n
  · exact ⟨_, _, .same h.1 h.2, bt_same h⟩
  · have p0 : 0 < p := by
      rcases Nat.eq_zero_or_pos p with z | z
      · subst z
        rw [Nat.gcd_zero_left] at co
        omega
      · exact z
    have B : Br p q n 0 1 1 0 p q := ⟨by omega, by omega, by decide, p0, q0, co, by omega, by omega, by omega, by omega, h⟩
    obtain ⟨l0, l1, h0, h1, a, b, c, d, g, B', ho⟩ := bt_while (x := pN p q) pl ql nl (4 * n) 0 1 1 0 p q none none (by omega) B
    have r := bt_fin (c := c) (d := d) h g
    by_cases hz : h1 = 0
    · subst hz
      rw [if_pos rfl] at r
      exact ⟨_, _, .top B' ho, r⟩
    · rw [if_neg hz] at r
      exact ⟨_, _, .mid B' (by omega) ho, r⟩
noncomputable def S_between : Sf := specR (fun cs => ∃ p q n, Dm p q n ∧ cs = [.f (pN p q), .f (.int (n : Int))]) 8 (m_between S_advanced)
theorem sem_between : ∀ cs c outs, S_between cs = .ok (c, outs) → cs.length = 2 ∧ runD 8 (m_between S_advanced) cs = .ok (c, outs) := specR_sem fun cs ⟨p, q, n, _, h⟩ => by rw [h]; rfl
theorem between_r {p q n : Nat} (h : Dm p q n) : ∃ lo hi, Bt p q n lo hi ∧ S_between [.f (pN p q), .f (.int (n : Int))] = .ok (.f (tellD lo hi), []) := by
  obtain ⟨lo, hi, h1, h2⟩ := between_run h
  exact ⟨lo, hi, h1, by unfold S_between; rw [specR_ok ⟨p, q, n, h, rfl⟩, h2]⟩
noncomputable def S_below : Sf := specR (fun cs => ∃ p q n, Dm p q n ∧ cs = [.f (pN p q), .f (.int (n : Int))]) 2 (m_below S_between)
noncomputable def S_above : Sf := specR (fun cs => ∃ p q n, Dm p q n ∧ cs = [.f (pN p q), .f (.int (n : Int))]) 2 (m_above S_between)
theorem sem_below : ∀ cs c outs, S_below cs = .ok (c, outs) → cs.length = 2 ∧ runD 2 (m_below S_between) cs = .ok (c, outs) := specR_sem fun cs ⟨p, q, n, _, h⟩ => by rw [h]; rfl
theorem sem_above : ∀ cs c outs, S_above cs = .ok (c, outs) → cs.length = 2 ∧ runD 2 (m_above S_between) cs = .ok (c, outs) := specR_sem fun cs ⟨p, q, n, _, h⟩ => by rw [h]; rfl
theorem below_fin {x m : D} {lo : Nat × Nat} {hi : Option (Nat × Nat)} (h : S_between [.f x, .f m] = .ok (.f (tellD lo hi), [])) : runD 2 (m_below S_between) [.f x, .f m] = .ok (.f (pN lo.1 lo.2), []) := by
  unfold tellD at h
  simp [runD_r, startE, m_below, h]
theorem above_fin {x m : D} {lo : Nat × Nat} {hi : Option (Nat × Nat)} (h : S_between [.f x, .f m] = .ok (.f (tellD lo hi), [])) : runD 2 (m_above S_between) [.f x, .f m] = .ok (.f (encH hi), []) := by
  unfold tellD at h
  simp [runD_r, startE, m_above, h]
theorem below_r {p q n : Nat} (d : Dm p q n) {lo : Nat × Nat} {hi : Option (Nat × Nat)} (h : S_between [.f (pN p q), .f (.int (n : Int))] = .ok (.f (tellD lo hi), [])) : S_below [.f (pN p q), .f (.int (n : Int))] = .ok (.f (pN lo.1 lo.2), []) := by
  unfold S_below
  rw [specR_ok ⟨p, q, n, d, rfl⟩, below_fin h]
theorem above_r {p q n : Nat} (d : Dm p q n) {lo : Nat × Nat} {hi : Option (Nat × Nat)} (h : S_between [.f (pN p q), .f (.int (n : Int))] = .ok (.f (tellD lo hi), [])) : S_above [.f (pN p q), .f (.int (n : Int))] = .ok (.f (encH hi), []) := by
  unfold S_above
  rw [specR_ok ⟨p, q, n, d, rfl⟩, above_fin h]
end Lk13

namespace Lk13
open PySem L2 DL PyProof.Rows Md Sh
theorem eqD_q (a b c d : Int) : eqD (.tuple [.int a, .int b]) (.tuple [.int c, .int d]) = .ok (.f (.bool ((a == c) && (b == d)))) := by
  have : D.eqb (.tuple [.int a, .int b]) (.tuple [.int c, .int d]) = ((a == c) && (b == d)) := by simp [D.eqb, D.eqbA]
  unfold eqD
  rw [this]
  rfl
def qO : Option (Int × Int) → D
  | none => .none
  | some x => .tuple [.int x.1, .int x.2]
/-- is the paper right of the fraction p/q -/
def rt (p q n : Int) : Option (Int × Int) → Option (Int × Int) → Bool
  | none, _ => false
  | some (a, b), none => wN a b n && (decide (n * q < p) && ((a == n) && (b == 1)))
  | some (a, b), some (c, d) => wN a b n && (wN c d n && (((a == p) && (b == q) && ((c == p) && (d == q))) || (decide (a * q < p * b) && (decide (p * d < c * q) && ((c * b - a * d == 1) && (decide (n < a + c) || decide (n < b + d)))))))
def papD (P1 P2 : Option (Int × Int)) : D := .tuple [.str "between", qO P1, qO P2]
structure Px (p q n : Int) : Prop where
  p0 : 0 ≤ p
  pl : p < 2 ^ 150
  q0 : 0 < q
  ql : q < 2 ^ 150
  n0 : 0 < n
  nl : n < 2 ^ 150
  co : Int.gcd p q = 1
theorem bg150 {i : Int} (h : 0 ≤ i) (h2 : i < 2 ^ 150) : Bg i := bg_le (n := 150) (by omega) (by decide)
theorem wN_inv {a b n : Int} (h : wN a b n = true) : 0 ≤ a ∧ a ≤ n ∧ 1 ≤ b ∧ b ≤ n ∧ Int.gcd a b = 1 := of_decide_eq_true h
theorem within_r {a b n : Int} (h : n < 2 ^ 150) : S_within [.f (.tuple [.int a, .int b]), .f (.int n)] = .ok (.f (.bool (wN a b n)), []) := if_pos h
theorem less_r {a b c d : Int} (h1 : Bg a) (h2 : Bg b) (h3 : Bg c) (h4 : Bg d) : S_less [.f (.tuple [.int a, .int b]), .f (.tuple [.int c, .int d])] = .ok (.f (.bool (decide (a * d < c * b))), []) := if_pos ⟨h1, h2, h3, h4⟩
noncomputable abbrev mR := m_law_right_2f3bd5 (S_like 2) S_within S_less
theorem right_mid {p q n a b c d : Int} {t1 t2 : Bool} (kl : S_like 2 [.f (.str "between"), .f (.str "between")] = .ok (.f (.bool true), [])) (k : S_within [.f (.tuple [.int a, .int b]), .f (.int n)] = .ok (.f (.bool true), [])) (k2 : S_within [.f (.tuple [.int c, .int d]), .f (.int n)] = .ok (.f (.bool true), []))
    (l1 : S_less [.f (.tuple [.int a, .int b]), .f (.tuple [.int p, .int q])] = .ok (.f (.bool t1), [])) (l2 : S_less [.f (.tuple [.int p, .int q]), .f (.tuple [.int c, .int d])] = .ok (.f (.bool t2), [])) (m1 : MulOk c b) (m2 : MulOk a d) :
    runD 7 mR [.f (.tuple [.int p, .int q]), .f (.int n), .f (.tuple [.str "between", .tuple [.int a, .int b], .tuple [.int c, .int d]])] = .ok (.f (.bool (((a == p) && (b == q) && ((c == p) && (d == q))) || (t1 && (t2 && ((c * b - a * d == 1) && (decide (n < a + c) || decide (n < b + d))))))), []) := by
  have e1 := eqD_q a b p q
  have e2 := eqD_q c d p q
  cases hs1 : ((a == p) && (b == q)) with
  | true =>
    rw [hs1] at e1
    cases hs2 : ((c == p) && (d == q)) with
    | true =>
      rw [hs2] at e2
      simp [runD_r, startE, mR, m_law_right_2f3bd5, kl, k, k2, e1, e2]
    | false =>
      rw [hs2] at e2
      cases t1 with
      | false => simp [runD_r, startE, mR, m_law_right_2f3bd5, kl, k, k2, e1, e2, l1]
      | true =>
        cases t2 with
        | false => simp [runD_r, startE, mR, m_law_right_2f3bd5, kl, k, k2, e1, e2, l1, l2]
        | true =>
          cases hd : (c * b - a * d == 1) with
          | false => simp [runD_r, startE, mR, m_law_right_2f3bd5, kl, k, k2, e1, e2, l1, l2, mulD_i m1, mulD_i m2, hd]
          | true =>
            cases hn : decide (n < a + c) with
            | false => simp [runD_r, startE, mR, m_law_right_2f3bd5, kl, k, k2, e1, e2, l1, l2, mulD_i m1, mulD_i m2, hd, hn]
            | true => simp [runD_r, startE, mR, m_law_right_2f3bd5, kl, k, k2, e1, e2, l1, l2, mulD_i m1, mulD_i m2, hd, hn]
  | false =>
    rw [hs1] at e1
    cases t1 with
    | false => simp [runD_r, startE, mR, m_law_right_2f3bd5, kl, k, k2, e1, e2, l1]
    | true =>
      cases t2 with
      | false => simp [runD_r, startE, mR, m_law_right_2f3bd5, kl, k, k2, e1, e2, l1, l2]
      | true =>
        cases hd : (c * b - a * d == 1) with
        | false => simp [runD_r, startE, mR, m_law_right_2f3bd5, kl, k, k2, e1, e2, l1, l2, mulD_i m1, mulD_i m2, hd]
        | true =>
          cases hn : decide (n < a + c) with
          | false => simp [runD_r, startE, mR, m_law_right_2f3bd5, kl, k, k2, e1, e2, l1, l2, mulD_i m1, mulD_i m2, hd, hn]
          | true => simp [runD_r, startE, mR, m_law_right_2f3bd5, kl, k, k2, e1, e2, l1, l2, mulD_i m1, mulD_i m2, hd, hn]
theorem right_run {p q n : Int} (X : Px p q n) (P1 P2 : Option (Int × Int)) : runD 7 mR [.f (.tuple [.int p, .int q]), .f (.int n), .f (papD P1 P2)] = .ok (.f (.bool (rt p q n P1 P2)), []) := by
  have kl : S_like 2 [.f (.str "between"), .f (.str "between")] = .ok (.f (.bool true), []) := like_r rfl
  have bp := bg150 X.p0 X.pl
  have bq := bg150 (by have := X.q0; omega) X.ql
  have bn := bg150 (by have := X.n0; omega) X.nl
  cases P1 with
  | none =>
    have k : S_within [.f .none, .f (.int n)] = .ok (.f (.bool false), []) := rfl
    simp [runD_r, startE, mR, m_law_right_2f3bd5, papD, qO, kl, k, rt]
  | some x =>
    obtain ⟨a, b⟩ := x
    have k := within_r (a := a) (b := b) X.nl
    cases hw : wN a b n with
    | false =>
      rw [hw] at k
      have hr : rt p q n (some (a, b)) P2 = false := by
        cases P2 <;> simp [rt, hw]
      rw [hr]
      simp [runD_r, startE, mR, m_law_right_2f3bd5, papD, qO, kl, k]
    | true =>
      rw [hw] at k
      obtain ⟨w1, w2, w3, w4, _⟩ := wN_inv hw
      have ba := bg150 w1 (by have := X.nl; omega)
      have bb := bg150 (i := b) (by omega) (by have := X.nl; omega)
      cases P2 with
      | none =>
        have k2 := less_r bn (show Bg 1 from bg_small (by decide)) bp bq
        rw [Int.mul_one] at k2
        cases hl : decide (n * q < p) with
        | false =>
          rw [hl] at k2
          simp [runD_r, startE, mR, m_law_right_2f3bd5, papD, qO, kl, k, rt, hw, k2, hl]
        | true =>
          rw [hl] at k2
          simp [runD_r, startE, mR, m_law_right_2f3bd5, papD, qO, kl, k, rt, hw, k2, hl, eqD_q]
      | some y =>
        obtain ⟨c, d⟩ := y
        have k2 := within_r (a := c) (b := d) X.nl
        cases hw2 : wN c d n with
        | false =>
          rw [hw2] at k2
          simp [runD_r, startE, mR, m_law_right_2f3bd5, papD, qO, kl, k, rt, hw, k2, hw2]
        | true =>
          rw [hw2] at k2
          obtain ⟨v1, v2, v3, v4, _⟩ := wN_inv hw2
          have bc := bg150 v1 (by have := X.nl; omega)
          have bd := bg150 (i := d) (by omega) (by have := X.nl; omega)
          have l1 := less_r ba bb bp bq
          have l2 := less_r bp bq bc bd
          have r := right_mid kl k k2 l1 l2 (bg_mul bc bb) (bg_mul ba bd)
          unfold rt
          dsimp only
          rw [hw, hw2, Bool.true_and, Bool.true_and]
          exact r
/-! is_between -/
def sgn (u v : Int) : Int := if u - v = 0 then 0 else if 0 < u - v then 1 else -1
theorem compare_r {a b c d : Int} (h1 : Bg a) (h2 : Bg b) (h3 : Bg c) (h4 : Bg d) : S_compare [.f (.tuple [.int a, .int b]), .f (.tuple [.int c, .int d])] = .ok (.f (.int (sgn (a * d) (c * b))), []) := if_pos ⟨h1, h2, h3, h4⟩
noncomputable abbrev mB := m_is_between S_within S_compare
theorem isb_top {p q n a b z : Int} (k : S_within [.f (.tuple [.int a, .int b]), .f (.int n)] = .ok (.f (.bool true), [])) (kc : S_compare [.f (.tuple [.int p, .int q]), .f (.tuple [.int n, .int 1])] = .ok (.f (.int z), [])) :
    runD 5 mB [.f (.tuple [.str "between", .tuple [.int a, .int b], .none]), .f (.tuple [.int p, .int q]), .f (.int n)] = .ok (.f (.bool (decide (0 < z) && ((a == n) && (b == 1)))), []) := by
  have e := eqD_q a b n 1
  cases hz : decide (0 < z) with
  | false => simp [runD_r, startE, mB, m_is_between, k, kc, hz]
  | true => simp [runD_r, startE, mB, m_is_between, k, kc, hz, e]
theorem isb_mid {p q n a b c d z1 z2 : Int} (k : S_within [.f (.tuple [.int a, .int b]), .f (.int n)] = .ok (.f (.bool true), [])) (k2 : S_within [.f (.tuple [.int c, .int d]), .f (.int n)] = .ok (.f (.bool true), []))
    (c1 : S_compare [.f (.tuple [.int a, .int b]), .f (.tuple [.int p, .int q])] = .ok (.f (.int z1), [])) (c2 : S_compare [.f (.tuple [.int p, .int q]), .f (.tuple [.int c, .int d])] = .ok (.f (.int z2), [])) (m1 : MulOk c b) (m2 : MulOk a d) :
    runD 5 mB [.f (.tuple [.str "between", .tuple [.int a, .int b], .tuple [.int c, .int d]]), .f (.tuple [.int p, .int q]), .f (.int n)] = .ok (.f (.bool (if ((a == c) && (b == d)) = true then z1 == 0 else (decide (z1 < 0) && (decide (z2 < 0) && ((c * b - a * d == 1) && (decide (n < a + c) || decide (n < b + d))))))), []) := by
  have e := eqD_q a b c d
  cases hs : ((a == c) && (b == d)) with
  | true =>
    rw [hs] at e
    simp [runD_r, startE, mB, m_is_between, k, k2, c1, e]
  | false =>
    rw [hs] at e
    cases h1 : decide (z1 < 0) with
    | false =>
      have h1' : (0 : Int) ≤ z1 := by have := of_decide_eq_false h1; omega
      simp [runD_r, startE, mB, m_is_between, k, k2, c1, e, h1']
    | true =>
      have h1' : ¬ (0 : Int) ≤ z1 := by have := of_decide_eq_true h1; omega
      cases h2 : decide (z2 < 0) with
      | false =>
        have h2' : (0 : Int) ≤ z2 := by have := of_decide_eq_false h2; omega
        simp [runD_r, startE, mB, m_is_between, k, k2, c1, c2, e, h1', h2']
      | true =>
        have h2' : ¬ (0 : Int) ≤ z2 := by have := of_decide_eq_true h2; omega
        cases hd : (c * b - a * d == 1) with
        | false => simp [runD_r, startE, mB, m_is_between, k, k2, c1, c2, e, h1', h2', mulD_i m1, mulD_i m2, hd]
        | true =>
          cases hn : decide (n < a + c) with
          | false => simp [runD_r, startE, mB, m_is_between, k, k2, c1, c2, e, h1', h2', mulD_i m1, mulD_i m2, hd, hn]
          | true => simp [runD_r, startE, mB, m_is_between, k, k2, c1, c2, e, h1', h2', mulD_i m1, mulD_i m2, hd, hn]
theorem cross_eq {a b p q : Int} (ha : 0 ≤ a) (hb : 0 < b) (hp : 0 ≤ p) (hq : 0 < q) (c1 : Int.gcd a b = 1) (c2 : Int.gcd p q = 1) (h : a * q = p * b) : a = p ∧ b = q := by
  obtain ⟨a, rfl⟩ := Int.eq_ofNat_of_zero_le ha
  obtain ⟨b, rfl⟩ := Int.eq_ofNat_of_zero_le (Int.le_of_lt hb)
  obtain ⟨p, rfl⟩ := Int.eq_ofNat_of_zero_le hp
  obtain ⟨q, rfl⟩ := Int.eq_ofNat_of_zero_le (Int.le_of_lt hq)
  rw [Int.gcd_natCast_natCast] at c1 c2
  have h' : a * q = p * b := by exact_mod_cast h
  have d1 : b ∣ q := by
    have : b ∣ a * q := ⟨p, by rw [h', Nat.mul_comm]⟩
    exact (Nat.Coprime.symm c1).dvd_of_dvd_mul_left this
  have d2 : q ∣ b := by
    have : q ∣ p * b := ⟨a, by rw [← h', Nat.mul_comm]⟩
    exact (Nat.Coprime.symm c2).dvd_of_dvd_mul_left this
  have e : b = q := Nat.dvd_antisymm d1 d2
  subst e
  have : a = p := Nat.eq_of_mul_eq_mul_right (by omega) h'
  omega
theorem sgn_neg (u v : Int) : decide (sgn u v < 0) = decide (u < v) := by
  unfold sgn
  congr 1
  apply propext
  split
  · omega
  · split <;> omega
theorem sgn_zero (u v : Int) : (sgn u v == 0) = decide (u = v) := by
  unfold sgn
  split
  · rw [decide_eq_true (by omega)]; rfl
  · rw [decide_eq_false (by omega)]; split <;> rfl
theorem sgn_pos (u v : Int) : decide (0 < sgn u v) = decide (v < u) := by
  unfold sgn
  congr 1
  apply propext
  split
  · omega
  · split <;> omega
theorem rt_pure {a b c d p q : Int} {T : Bool} (hx : a * q = p * b → a = p ∧ b = q) : (if ((a == c) && (b == d)) = true then sgn (a * q) (p * b) == 0 else (decide (sgn (a * q) (p * b) < 0) && (decide (sgn (p * d) (c * q) < 0) && T))) = (((a == p) && (b == q) && ((c == p) && (d == q))) || (decide (a * q < p * b) && (decide (p * d < c * q) && T))) := by
  rw [sgn_neg, sgn_neg, sgn_zero]
  by_cases h1 : a = c
  · subst h1
    by_cases h2 : b = d
    · subst h2
      rw [if_pos (by simp)]
      by_cases h3 : a * q = p * b
      · obtain ⟨rfl, rfl⟩ := hx h3
        simp
      · have h4 : ((a == p) && (b == q)) = false := by
          by_cases z1 : a = p
          · by_cases z2 : b = q
            · rw [z1, z2] at h3; exact absurd rfl h3
            · simp [z2]
          · simp [z1]
        rw [decide_eq_false h3, h4, Bool.false_and, Bool.false_or, ← Bool.and_assoc]
        have h5 : (decide (a * q < p * b) && decide (p * b < a * q)) = false := by
          by_cases z : a * q < p * b
          · rw [decide_eq_false (show ¬ p * b < a * q by omega), Bool.and_false]
          · rw [decide_eq_false z, Bool.false_and]
        rw [h5, Bool.false_and]
    · rw [if_neg (by simp [h2])]
      have h4 : ((a == p) && (b == q) && ((a == p) && (d == q))) = false := by
        by_cases z1 : b = q
        · have : ¬ d = q := fun z => h2 (by rw [z1, z])
          simp [this]
        · simp [z1]
      rw [h4, Bool.false_or]
  · rw [if_neg (by simp [h1])]
    have h4 : ((a == p) && (b == q) && ((c == p) && (d == q))) = false := by
      by_cases z1 : a = p
      · have : ¬ c = p := fun z => h1 (by rw [z1, z])
        simp [this]
      · simp [z1]
    rw [h4, Bool.false_or]
end Lk13

namespace Lk13
open PySem L2 DL PyProof.Rows Md Sh
theorem isb_run {p q n : Int} (X : Px p q n) (P1 P2 : Option (Int × Int)) : runD 5 mB [.f (papD P1 P2), .f (.tuple [.int p, .int q]), .f (.int n)] = .ok (.f (.bool (rt p q n P1 P2)), []) := by
  have bp := bg150 X.p0 X.pl
  have bq := bg150 (by have := X.q0; omega) X.ql
  have bn := bg150 (by have := X.n0; omega) X.nl
  cases P1 with
  | none =>
    have k : S_within [.f .none, .f (.int n)] = .ok (.f (.bool false), []) := rfl
    simp [runD_r, startE, mB, m_is_between, papD, qO, k, rt]
  | some x =>
    obtain ⟨a, b⟩ := x
    have k := within_r (a := a) (b := b) X.nl
    cases hw : wN a b n with
    | false =>
      rw [hw] at k
      have hr : rt p q n (some (a, b)) P2 = false := by
        cases P2 <;> simp [rt, hw]
      rw [hr]
      simp [runD_r, startE, mB, m_is_between, papD, qO, k]
    | true =>
      rw [hw] at k
      obtain ⟨w1, w2, w3, w4, w5⟩ := wN_inv hw
      have ba := bg150 w1 (by have := X.nl; omega)
      have bb := bg150 (i := b) (by omega) (by have := X.nl; omega)
      cases P2 with
      | none =>
        have r := isb_top k (compare_r bp bq bn (show Bg 1 from bg_small (by decide)))
        rw [sgn_pos, Int.mul_one] at r
        unfold rt
        dsimp only
        rw [hw, Bool.true_and]
        exact r
      | some y =>
        obtain ⟨c, d⟩ := y
        have k2 := within_r (a := c) (b := d) X.nl
        cases hw2 : wN c d n with
        | false =>
          rw [hw2] at k2
          simp [runD_r, startE, mB, m_is_between, papD, qO, k, rt, hw, k2, hw2]
        | true =>
          rw [hw2] at k2
          obtain ⟨v1, v2, v3, v4, v5⟩ := wN_inv hw2
          have bc := bg150 v1 (by have := X.nl; omega)
          have bd := bg150 (i := d) (by omega) (by have := X.nl; omega)
          have r := isb_mid k k2 (compare_r ba bb bp bq) (compare_r bp bq bc bd) (bg_mul bc bb) (bg_mul ba bd)
          unfold rt
          dsimp only
          rw [hw, hw2, Bool.true_and, Bool.true_and]
          rw [rt_pure (fun h => cross_eq w1 (by omega) X.p0 X.q0 w5 X.co h)] at r
          exact r
end Lk13

namespace Lk13
open PySem L2 DL PyProof.Rows Md Sh
/-- the papers that are told apart -/
inductive Pap where
  | tri (P1 P2 : Option (Int × Int))
  | two (d1 d2 : D)
  | non
def Pap.d : Pap → D
  | .tri P1 P2 => papD P1 P2
  | .two d1 d2 => .tuple [d1, d2]
  | .non => .none
def Pap.ok (p q n : Int) : Pap → Bool
  | .tri P1 P2 => rt p q n P1 P2
  | _ => false
theorem right_all {p q n : Int} (X : Px p q n) (P : Pap) : runD 7 mR [.f (.tuple [.int p, .int q]), .f (.int n), .f P.d] = .ok (.f (.bool (P.ok p q n)), []) := by
  cases P with
  | tri P1 P2 => exact right_run X P1 P2
  | two d1 d2 => simp [runD_r, startE, mR, m_law_right_2f3bd5, Pap.d, Pap.ok]
  | non => simp [runD_r, startE, mR, m_law_right_2f3bd5, Pap.d, Pap.ok]
theorem isb_all {p q n : Int} (X : Px p q n) (P : Pap) : runD 5 mB [.f P.d, .f (.tuple [.int p, .int q]), .f (.int n)] = .ok (.f (.bool (P.ok p q n)), []) := by
  cases P with
  | tri P1 P2 => exact isb_run X P1 P2
  | two d1 d2 => simp [runD_r, startE, mB, m_is_between, Pap.d, Pap.ok]
  | non => simp [runD_r, startE, mB, m_is_between, Pap.d, Pap.ok]
noncomputable def S_law_right : Sf := specR (fun cs => ∃ p q n P, Px p q n ∧ cs = [.f (.tuple [.int p, .int q]), .f (.int n), .f (Pap.d P)]) 7 mR
noncomputable def S_is_between : Sf := specR (fun cs => ∃ p q n P, Px p q n ∧ cs = [.f (Pap.d P), .f (.tuple [.int p, .int q]), .f (.int n)]) 5 mB
theorem sem_law_right : ∀ cs c outs, S_law_right cs = .ok (c, outs) → cs.length = 3 ∧ runD 7 mR cs = .ok (c, outs) := specR_sem fun cs ⟨p, q, n, P, _, h⟩ => by rw [h]; rfl
theorem sem_is_between : ∀ cs c outs, S_is_between cs = .ok (c, outs) → cs.length = 3 ∧ runD 5 mB cs = .ok (c, outs) := specR_sem fun cs ⟨p, q, n, P, _, h⟩ => by rw [h]; rfl
theorem law_right_r {p q n : Int} (X : Px p q n) (P : Pap) : S_law_right [.f (.tuple [.int p, .int q]), .f (.int n), .f P.d] = .ok (.f (.bool (P.ok p q n)), []) := by
  unfold S_law_right
  rw [specR_ok ⟨p, q, n, P, X, rfl⟩, right_all X P]
theorem is_between_r {p q n : Int} (X : Px p q n) (P : Pap) : S_is_between [.f P.d, .f (.tuple [.int p, .int q]), .f (.int n)] = .ok (.f (.bool (P.ok p q n)), []) := by
  unfold S_is_between
  rw [specR_ok ⟨p, q, n, P, X, rfl⟩, isb_all X P]
/-! what between tells is right -/
def oI (x : Nat × Nat) : Int × Int := ((x.1 : Int), (x.2 : Int))
theorem tell_pap (lo : Nat × Nat) (hi : Option (Nat × Nat)) : tellD lo hi = (Pap.tri (some (oI lo)) (hi.map oI)).d := by
  cases hi <;> rfl
theorem Br.lowq {p q n l0 l1 h0 h1 a b : Nat} (h : Br p q n l0 l1 h0 h1 a b) : Nat.gcd l0 l1 = 1 ∧ Nat.gcd h0 h1 = 1 := by
  have un := h.un
  constructor
  · have d1 : Nat.gcd l0 l1 ∣ h0 * l1 := Nat.dvd_trans (Nat.gcd_dvd_right _ _) (Nat.dvd_mul_left _ _)
    have d2 : Nat.gcd l0 l1 ∣ l0 * h1 := Nat.dvd_trans (Nat.gcd_dvd_left _ _) (Nat.dvd_mul_right _ _)
    rw [un] at d1
    have := (Nat.dvd_add_right d2).mp d1
    exact Nat.dvd_one.mp this
  · have d1 : Nat.gcd h0 h1 ∣ h0 * l1 := Nat.dvd_trans (Nat.gcd_dvd_left _ _) (Nat.dvd_mul_right _ _)
    have d2 : Nat.gcd h0 h1 ∣ l0 * h1 := Nat.dvd_trans (Nat.gcd_dvd_right _ _) (Nat.dvd_mul_left _ _)
    rw [un] at d1
    have := (Nat.dvd_add_right d2).mp d1
    exact Nat.dvd_one.mp this
theorem wN_nat {a b n : Nat} (h1 : a ≤ n) (h2 : 1 ≤ b) (h3 : b ≤ n) (h4 : Nat.gcd a b = 1) : wN (a : Int) (b : Int) (n : Int) = true := by
  unfold wN
  rw [Int.gcd_natCast_natCast]
  exact decide_eq_true ⟨by omega, by omega, by omega, by omega, h4⟩
theorem bt_ok {p q n : Nat} (co : Nat.gcd p q = 1) (q0 : 0 < q) {lo : Nat × Nat} {hi : Option (Nat × Nat)} (h : Bt p q n lo hi) : Pap.ok (p : Int) (q : Int) (n : Int) (Pap.tri (some (oI lo)) (hi.map oI)) = true := by
  cases h with
  | same h1 h2 =>
    show rt _ _ _ (some ((p : Int), (q : Int))) (some ((p : Int), (q : Int))) = true
    unfold rt
    dsimp only
    rw [wN_nat h1 q0 h2 co]
    simp
  | @top l0 l1 h0 a b B ho =>
    have un := B.un
    rw [Nat.mul_zero, Nat.zero_add] at un
    have e1 : h0 = 1 ∧ l1 = 1 := by
      have := Nat.eq_one_of_mul_eq_one_right un
      have := Nat.eq_one_of_mul_eq_one_left un
      omega
    obtain ⟨rfl, rfl⟩ := e1
    have n0 := B.n0
    have m0 := B.m0
    have hl : l0 = n := by omega
    subst hl
    have Ea := B.ahead
    have pa := B.pa
    show rt _ _ _ (some ((l0 : Int), ((1 : Nat) : Int))) none = true
    unfold rt
    dsimp only
    rw [wN_nat (Nat.le_refl _) (by decide) m0 (Nat.gcd_one_right _)]
    have h1 : (l0 : Int) * (q : Int) < (p : Int) := by
      have : l0 * q < p := by omega
      exact_mod_cast this
    rw [decide_eq_true h1]
    simp
  | @mid l0 l1 h0 h1 a b B hh ho =>
    have un := B.un
    obtain ⟨c1, c2⟩ := B.lowq
    have Ea := B.ahead
    have Eb := B.behind
    have pa := B.pa
    have pb := B.pb
    have hl : 0 < l1 := by
      rcases Nat.eq_zero_or_pos l1 with z | z
      · rw [z, Nat.mul_zero] at un; omega
      · exact z
    show rt _ _ _ (some ((l0 : Int), (l1 : Int))) (some ((h0 : Int), (h1 : Int))) = true
    unfold rt
    dsimp only
    rw [wN_nat B.n0 hl B.n1 c1, wN_nat B.m0 hh B.m1 c2]
    have g1 : (l0 : Int) * (q : Int) < (p : Int) * (l1 : Int) := by
      have : l0 * q < p * l1 := by omega
      exact_mod_cast this
    have g2 : (p : Int) * (h1 : Int) < (h0 : Int) * (q : Int) := by
      have : p * h1 < h0 * q := by omega
      exact_mod_cast this
    have g3 : ((h0 : Int) * (l1 : Int) - (l0 : Int) * (h1 : Int) == 1) = true := by
      rw [beq_iff_eq]
      have : ((h0 * l1 : Nat) : Int) = ((l0 * h1 + 1 : Nat) : Int) := by rw [un]
      rw [Int.natCast_add, Int.natCast_mul, Int.natCast_mul] at this
      omega
    have g4 : (decide ((n : Int) < (l0 : Int) + (h0 : Int)) || decide ((n : Int) < (l1 : Int) + (h1 : Int))) = true := by
      rw [Bool.or_eq_true, decide_eq_true_eq, decide_eq_true_eq]
      omega
    rw [decide_eq_true g1, decide_eq_true g2, g3, g4]
    simp
end Lk13

namespace Lk13
open PySem L2 DL PyProof.Rows Md Sh
/-! ### nearest, near -/
/-- the fractions of between are well within reach -/
structure Sm (lo : Nat × Nat) (hi : Option (Nat × Nat)) : Prop where
  l0 : lo.1 < 2 ^ 150
  l1 : lo.2 < 2 ^ 150
  lp : 0 < lo.2
  h : ∀ x, hi = some x → x.1 < 2 ^ 150 ∧ x.2 < 2 ^ 150 ∧ 0 < x.2
theorem Bt.sm {p q n : Nat} (hn : n < 2 ^ 150) (q0 : 0 < q) {lo : Nat × Nat} {hi : Option (Nat × Nat)} (h : Bt p q n lo hi) : Sm lo hi := by
  cases h with
  | same h1 h2 => exact ⟨by dsimp only; omega, by dsimp only; omega, q0, fun x e => by cases e; exact ⟨by dsimp only; omega, by dsimp only; omega, q0⟩⟩
  | @top l0 l1 h0 a b B ho =>
    have := B.n0
    have := B.n1
    have un := B.un
    have hl : 0 < l1 := by
      rcases Nat.eq_zero_or_pos l1 with z | z
      · rw [z, Nat.mul_zero] at un; omega
      · exact z
    exact ⟨by dsimp only; omega, by dsimp only; omega, hl, fun x e => by cases e⟩
  | @mid l0 l1 h0 h1 a b B hh ho =>
    have := B.n0
    have := B.n1
    have := B.m0
    have := B.m1
    have un := B.un
    have hl : 0 < l1 := by
      rcases Nat.eq_zero_or_pos l1 with z | z
      · rw [z, Nat.mul_zero] at un; omega
      · exact z
    exact ⟨by dsimp only; omega, by dsimp only; omega, hl, fun x e => by cases e; exact ⟨by dsimp only; omega, by dsimp only; omega, hh⟩⟩
/-! the best below and above -/
/-- lo is the greatest fraction not above p/q with both parts at most n; its form is the lowest -/
structure Best (p q n : Nat) (lo : Nat × Nat) : Prop where
  n0 : lo.1 ≤ n
  n1 : lo.2 ≤ n
  p1 : 0 < lo.2
  co : Nat.gcd lo.1 lo.2 = 1
  le : lo.1 * q ≤ p * lo.2
  mx : ∀ r s, r ≤ n → s ≤ n → 0 < s → r * q ≤ p * s → r * lo.2 ≤ lo.1 * s
structure BestH (p q n : Nat) (hi : Nat × Nat) : Prop where
  n0 : hi.1 ≤ n
  n1 : hi.2 ≤ n
  p1 : 0 < hi.2
  co : Nat.gcd hi.1 hi.2 = 1
  le : p * hi.2 ≤ hi.1 * q
  mn : ∀ r s, r ≤ n → s ≤ n → 0 < s → p * s ≤ r * q → hi.1 * s ≤ r * hi.2
theorem Bt.best {p q n : Nat} (co : Nat.gcd p q = 1) (q0 : 0 < q) {lo : Nat × Nat} {hi : Option (Nat × Nat)} (h : Bt p q n lo hi) : Best p q n lo := by
  cases h with
  | same h1 h2 => exact ⟨h1, h2, q0, co, Nat.le_refl _, fun r s _ _ _ h => h⟩
  | @top l0 l1 h0 a b B ho =>
    have un := B.un
    obtain ⟨c1, c2⟩ := B.lowq
    have Ea := B.ahead
    rw [Nat.mul_zero, Nat.zero_add] at un
    have e1 : h0 = 1 ∧ l1 = 1 := by
      have := Nat.eq_one_of_mul_eq_one_right un
      have := Nat.eq_one_of_mul_eq_one_left un
      omega
    obtain ⟨rfl, rfl⟩ := e1
    have n0 := B.n0
    have m0 := B.m0
    refine ⟨n0, m0, by dsimp only; decide, c1, by dsimp only; omega, fun r s hr hs s0 hle => ?_⟩
    have : l0 = n := by omega
    subst this
    show r * 1 ≤ l0 * s
    have := Nat.le_mul_of_pos_right l0 s0
    omega
  | @mid l0 l1 h0 h1 a b B hh ho =>
    obtain ⟨c1, c2⟩ := B.lowq
    have un := B.un
    have Ea := B.ahead
    have Eb := B.behind
    have pb := B.pb
    have hl : 0 < l1 := by
      rcases Nat.eq_zero_or_pos l1 with z | z
      · rw [z, Nat.mul_zero] at un; omega
      · exact z
    refine ⟨B.n0, B.n1, hl, c1, by dsimp only; omega, fun r s hr hs s0 hle => ?_⟩
    show r * l1 ≤ l0 * s
    by_cases hc : r * l1 ≤ l0 * s
    · exact hc
    · exfalso
      have g2 : r * h1 < h0 * s := by
        -- r/s <= p/q < h0/h1
        have t1 : r * q * h1 ≤ p * s * h1 := Nat.mul_le_mul_right _ hle
        have t2 : p * h1 * s < h0 * q * s := Nat.mul_lt_mul_of_pos_right (by omega) s0
        have t3 : q * (r * h1) < q * (h0 * s) := by
          simp only [Nat.mul_assoc, Nat.mul_comm, Nat.mul_left_comm] at *
          omega
        exact Nat.lt_of_mul_lt_mul_left t3
      obtain ⟨z1, z2⟩ := Br.gap un (by omega) g2
      omega
theorem Bt.bestH {p q n : Nat} (co : Nat.gcd p q = 1) (q0 : 0 < q) {lo : Nat × Nat} {hi : Nat × Nat} (h : Bt p q n lo (some hi)) : BestH p q n hi := by
  cases h with
  | same h1 h2 => exact ⟨h1, h2, q0, co, Nat.le_refl _, fun r s _ _ _ h => h⟩
  | @mid l0 l1 h0 h1 a b B hh ho =>
    obtain ⟨c1, c2⟩ := B.lowq
    have un := B.un
    have Ea := B.ahead
    have Eb := B.behind
    have pa := B.pa
    refine ⟨B.m0, B.m1, hh, c2, by dsimp only; omega, fun r s hr hs s0 hle => ?_⟩
    show h0 * s ≤ r * h1
    by_cases hc : h0 * s ≤ r * h1
    · exact hc
    · exfalso
      have g1 : l0 * s < r * l1 := by
        have t1 : p * s * l1 ≤ r * q * l1 := Nat.mul_le_mul_right _ hle
        have t2 : l0 * q * s < p * l1 * s := Nat.mul_lt_mul_of_pos_right (by omega) s0
        have t3 : q * (l0 * s) < q * (r * l1) := by
          simp only [Nat.mul_assoc, Nat.mul_comm, Nat.mul_left_comm] at *
          omega
        exact Nat.lt_of_mul_lt_mul_left t3
      obtain ⟨z1, z2⟩ := Br.gap un g1 (by omega)
      omega
/-- above the top there is none -/
theorem Bt.none_above {p q n : Nat} {lo : Nat × Nat} (h : Bt p q n lo none) (r s : Nat) (hr : r ≤ n) (s0 : 0 < s) : r * q < p * s := by
  cases h with
  | @top l0 l1 h0 a b B ho =>
    have un := B.un
    have Ea := B.ahead
    have pa := B.pa
    rw [Nat.mul_zero, Nat.zero_add] at un
    have e1 : h0 = 1 ∧ l1 = 1 := by
      have := Nat.eq_one_of_mul_eq_one_right un
      have := Nat.eq_one_of_mul_eq_one_left un
      omega
    obtain ⟨rfl, rfl⟩ := e1
    have n0 := B.n0
    have m0 := B.m0
    have hl : l0 = n := by omega
    subst hl
    have h1 : r * q ≤ l0 * q := Nat.mul_le_mul_right _ hr
    have h2 : p * 1 ≤ p * s := Nat.mul_le_mul_left _ s0
    omega
theorem best_uniq {p q n : Nat} {x y : Nat × Nat} (h1 : Best p q n x) (h2 : Best p q n y) : x = y := by
  have a := h1.mx y.1 y.2 h2.n0 h2.n1 h2.p1 h2.le
  have b := h2.mx x.1 x.2 h1.n0 h1.n1 h1.p1 h1.le
  have e : x.1 * y.2 = y.1 * x.2 := by omega
  have := cross_eq (a := (x.1 : Int)) (b := (x.2 : Int)) (p := (y.1 : Int)) (q := (y.2 : Int)) (by omega) (by have := h1.p1; omega) (by omega) (by have := h2.p1; omega) (by rw [Int.gcd_natCast_natCast]; exact h1.co) (by rw [Int.gcd_natCast_natCast]; exact h2.co) (by exact_mod_cast e)
  exact Prod.ext (by omega) (by omega)
theorem bestH_uniq {p q n : Nat} {x y : Nat × Nat} (h1 : BestH p q n x) (h2 : BestH p q n y) : x = y := by
  have a := h1.mn y.1 y.2 h2.n0 h2.n1 h2.p1 h2.le
  have b := h2.mn x.1 x.2 h1.n0 h1.n1 h1.p1 h1.le
  have e : x.1 * y.2 = y.1 * x.2 := by omega
  have := cross_eq (a := (x.1 : Int)) (b := (x.2 : Int)) (p := (y.1 : Int)) (q := (y.2 : Int)) (by omega) (by have := h1.p1; omega) (by omega) (by have := h2.p1; omega) (by rw [Int.gcd_natCast_natCast]; exact h1.co) (by rw [Int.gcd_natCast_natCast]; exact h2.co) (by exact_mod_cast e)
  exact Prod.ext (by omega) (by omega)
end Lk13

namespace Lk13
open PySem L2 DL PyProof.Rows Md Sh
/-! ### the law's trying -/
structure BstL (p q n k : Nat) (lo : Nat × Nat) : Prop where
  n0 : lo.1 ≤ n
  n1 : lo.2 ≤ k ∨ lo.2 = 1
  p1 : 0 < lo.2
  co : Nat.gcd lo.1 lo.2 = 1
  le : lo.1 * q ≤ p * lo.2
  mx : ∀ r s, r ≤ n → s ≤ k → 0 < s → r * q ≤ p * s → r * lo.2 ≤ lo.1 * s
structure BstH (p q n k : Nat) (hi : Nat × Nat) : Prop where
  n0 : hi.1 ≤ n
  n1 : hi.2 ≤ k
  p1 : 0 < hi.2
  co : Nat.gcd hi.1 hi.2 = 1
  le : p * hi.2 ≤ hi.1 * q
  mn : ∀ r s, r ≤ n → s ≤ k → 0 < s → p * s ≤ r * q → hi.1 * s ≤ r * hi.2
def NoH (p q n k : Nat) : Prop := ∀ r s, r ≤ n → s ≤ k → 0 < s → r * q < p * s
def HiK (p q n k : Nat) : Option (Nat × Nat) → Prop
  | none => NoH p q n k
  | some hi => BstH p q n k hi
/-- u/v is c/s in its lowest terms -/
structure Red (c s u v : Nat) : Prop where
  eq : u * s = c * v
  v0 : 0 < v
  vs : v ≤ s
  uc : u ≤ c
  co : Nat.gcd u v = 1
theorem red_ex {c s : Nat} (hs : 0 < s) : ∃ u v, Red c s u v ∧ redI (c : Int) (s : Int) = ((u : Int), (v : Int)) := by
  have hg : 0 < Nat.gcd c s := Nat.gcd_pos_of_pos_right c hs
  obtain ⟨u, hu⟩ := Nat.gcd_dvd_left c s
  obtain ⟨v, hv⟩ := Nat.gcd_dvd_right c s
  have e1 : c / Nat.gcd c s = u := Nat.div_eq_of_eq_mul_right hg hu
  have e2 : s / Nat.gcd c s = v := Nat.div_eq_of_eq_mul_right hg hv
  have hco : Nat.gcd u v = 1 := by
    have := Nat.coprime_div_gcd_div_gcd hg
    rw [e1, e2] at this
    exact this
  have hr : redI (c : Int) (s : Int) = ((u : Int), (v : Int)) := by
    unfold redI
    rw [Int.gcd_natCast_natCast, ← Int.natCast_ediv, ← Int.natCast_ediv, e1, e2]
  refine ⟨u, v, ⟨?_, ?_, ?_, ?_, hco⟩, hr⟩
  · generalize Nat.gcd c s = g at *
    rw [hu, hv]
    simp only [Nat.mul_assoc, Nat.mul_comm, Nat.mul_left_comm]
  · rcases Nat.eq_zero_or_pos v with z | z
    · rw [z] at hv; omega
    · exact z
  · rw [← e2]; exact Nat.div_le_self _ _
  · rw [← e1]; exact Nat.div_le_self _ _
/-- one more denominator, from below -/
theorem BstL.next {p q n k c u v : Nat} {lo : Nat × Nat} (h : BstL p q n k lo) (q0 : 0 < q) (hc : c = if p * (k + 1) / q < n then p * (k + 1) / q else n) (R : Red c (k + 1) u v) : BstL p q n (k + 1) (if lo.1 * (k + 1) < c * lo.2 then (u, v) else lo) := by
  have hcn : c ≤ n := by rw [hc]; split <;> omega
  have hcq : c * q ≤ p * (k + 1) := by
    have h1 : c ≤ p * (k + 1) / q := by rw [hc]; split <;> omega
    have h2 := Nat.mul_le_mul_right q h1
    have h3 := Nat.div_mul_le_self (p * (k + 1)) q
    omega
  have hbest : ∀ r, r ≤ n → r * q ≤ p * (k + 1) → r ≤ c := by
    intro r hr hle
    have h1 : r ≤ p * (k + 1) / q := (Nat.le_div_iff_mul_le q0).mpr hle
    rw [hc]; split <;> omega
  obtain ⟨n0, n1, p1, co, le, mx⟩ := h
  obtain ⟨eq, v0, vs, uc, rco⟩ := R
  split
  · rename_i hlt
    refine ⟨by dsimp only; omega, .inl vs, v0, rco, ?_, fun r s hr hs s0 hle => ?_⟩
    · show u * q ≤ p * v
      have t1 : (k + 1) * (u * q) ≤ (k + 1) * (p * v) := by
        have a1 : (k + 1) * (u * q) = (u * (k + 1)) * q := by rw [← Nat.mul_assoc, Nat.mul_comm (k + 1) u]
        have a2 : (k + 1) * (p * v) = p * (k + 1) * v := by rw [← Nat.mul_assoc, Nat.mul_comm (k + 1) p]
        rw [a1, a2, eq]
        have a3 : c * v * q = c * q * v := Nat.mul_right_comm _ _ _
        rw [a3]
        exact Nat.mul_le_mul_right v hcq
      exact Nat.le_of_mul_le_mul_left t1 (by omega)
    · show r * v ≤ u * s
      by_cases hsk : s = k + 1
      · subst hsk
        rw [eq]
        exact Nat.mul_le_mul_right v (hbest r hr hle)
      · have h1 := mx r s hr (by omega) s0 hle
        -- r * lo2 <= lo1 * s, lo1 * (k+1) < c * lo2
        have h2 : lo.2 * (r * (k + 1)) ≤ lo.2 * (c * s) := by
          have a1 : r * lo.2 * (k + 1) ≤ lo.1 * s * (k + 1) := Nat.mul_le_mul_right _ h1
          have a2 : lo.1 * (k + 1) * s ≤ c * lo.2 * s := Nat.mul_le_mul_right _ (Nat.le_of_lt hlt)
          have b1 : lo.2 * (r * (k + 1)) = r * lo.2 * (k + 1) := by rw [← Nat.mul_assoc, Nat.mul_comm lo.2 r]
          have b2 : lo.2 * (c * s) = c * lo.2 * s := by rw [← Nat.mul_assoc, Nat.mul_comm lo.2 c]
          have b3 : lo.1 * s * (k + 1) = lo.1 * (k + 1) * s := Nat.mul_right_comm _ _ _
          omega
        have h3 := Nat.le_of_mul_le_mul_left h2 p1
        have h4 : (k + 1) * (r * v) ≤ (k + 1) * (u * s) := by
          have a1 : r * (k + 1) * v ≤ c * s * v := Nat.mul_le_mul_right _ h3
          have b1 : (k + 1) * (r * v) = r * (k + 1) * v := by rw [← Nat.mul_assoc, Nat.mul_comm (k + 1) r]
          have b2 : (k + 1) * (u * s) = u * (k + 1) * s := by rw [← Nat.mul_assoc, Nat.mul_comm (k + 1) u]
          have b3 : c * s * v = c * v * s := Nat.mul_right_comm _ _ _
          rw [b1, b2, eq]
          omega
        exact Nat.le_of_mul_le_mul_left h4 (by omega)
  · rename_i hge
    refine ⟨n0, by omega, p1, co, le, fun r s hr hs s0 hle => ?_⟩
    by_cases hsk : s = k + 1
    · subst hsk
      have h1 := hbest r hr hle
      have h2 : r * lo.2 ≤ c * lo.2 := Nat.mul_le_mul_right _ h1
      omega
    · exact mx r s hr (by omega) s0 hle
theorem BstL.start (p q n : Nat) : BstL p q n 0 (0, 1) := ⟨Nat.zero_le _, .inr rfl, by dsimp only; decide, by dsimp only; decide, by dsimp only; omega, fun r s _ hs s0 _ => by omega⟩
theorem BstL.best {p q n : Nat} {lo : Nat × Nat} (h : BstL p q n n lo) (n0 : 0 < n) : Best p q n lo := ⟨h.n0, by have := h.n1; omega, h.p1, h.co, h.le, h.mx⟩
theorem BstH.best {p q n : Nat} {hi : Nat × Nat} (h : BstH p q n n hi) : BestH p q n hi := ⟨h.n0, h.n1, h.p1, h.co, h.le, h.mn⟩
end Lk13

namespace Lk13
open PySem L2 DL PyProof.Rows Md Sh
def ceilN (a b : Nat) : Nat := (a + b - 1) / b
theorem ceil_le {a b u : Nat} (hb : 0 < b) : ceilN a b ≤ u ↔ a ≤ u * b := by
  unfold ceilN
  rw [Nat.div_le_iff_le_mul_add_pred hb, Nat.mul_comm]
  omega
/-- is the candidate c/s taken -/
def takeH (n c s : Nat) : Option (Nat × Nat) → Bool
  | none => decide (c ≤ n)
  | some hi => decide (c ≤ n) && decide (c * hi.2 < hi.1 * s)
theorem HiK.next {p q n k c u v : Nat} {hi : Option (Nat × Nat)} (h : HiK p q n k hi) (q0 : 0 < q) (hc : c = ceilN (p * (k + 1)) q) (R : Red c (k + 1) u v) : HiK p q n (k + 1) (if takeH n c (k + 1) hi = true then some (u, v) else hi) := by
  have hcq : p * (k + 1) ≤ c * q := by rw [hc]; exact (ceil_le q0).mp (Nat.le_refl _)
  have hbest : ∀ r, p * (k + 1) ≤ r * q → c ≤ r := fun r hle => by rw [hc]; exact (ceil_le q0).mpr hle
  obtain ⟨eq, v0, vs, uc, rco⟩ := R
  have hle' : p * v ≤ u * q := by
    have t1 : (k + 1) * (p * v) ≤ (k + 1) * (u * q) := by
      have a1 : (k + 1) * (u * q) = (u * (k + 1)) * q := by rw [← Nat.mul_assoc, Nat.mul_comm (k + 1) u]
      have a2 : (k + 1) * (p * v) = p * (k + 1) * v := by rw [← Nat.mul_assoc, Nat.mul_comm (k + 1) p]
      rw [a1, a2, eq]
      have a3 : c * v * q = c * q * v := Nat.mul_right_comm _ _ _
      rw [a3]
      exact Nat.mul_le_mul_right v hcq
    exact Nat.le_of_mul_le_mul_left t1 (by omega)
  have hsame : ∀ r, p * (k + 1) ≤ r * q → u * (k + 1) ≤ r * v := fun r hle => by
    rw [eq]
    exact Nat.mul_le_mul_right v (hbest r hle)
  cases hi with
  | none =>
    have h : NoH p q n k := h
    by_cases hcn : c ≤ n
    · rw [if_pos (by simp [takeH, hcn])]
      refine ⟨by dsimp only; omega, vs, v0, rco, hle', fun r s hr hs s0 hle => ?_⟩
      by_cases hsk : s = k + 1
      · subst hsk; exact hsame r hle
      · have := h r s hr (by omega) s0; omega
    · rw [if_neg (by simp [takeH]; omega)]
      intro r s hr hs s0
      by_cases hsk : s = k + 1
      · subst hsk
        by_cases hx : r * q < p * (k + 1)
        · exact hx
        · have := hbest r (by omega); omega
      · exact h r s hr (by omega) s0
  | some hi =>
    obtain ⟨n0, n1, p1, co, le, mn⟩ := (show BstH p q n k hi from h)
    by_cases ht : c ≤ n ∧ c * hi.2 < hi.1 * (k + 1)
    · rw [if_pos (by simp [takeH, ht.1, ht.2])]
      obtain ⟨hcn, hlt⟩ := ht
      refine ⟨by dsimp only; omega, vs, v0, rco, hle', fun r s hr hs s0 hle => ?_⟩
      show u * s ≤ r * v
      by_cases hsk : s = k + 1
      · subst hsk; exact hsame r hle
      · have h1 := mn r s hr (by omega) s0 hle
        have h2 : hi.2 * (c * s) ≤ hi.2 * (r * (k + 1)) := by
          have a1 : hi.1 * s * (k + 1) ≤ r * hi.2 * (k + 1) := Nat.mul_le_mul_right _ h1
          have a2 : c * hi.2 * s ≤ hi.1 * (k + 1) * s := Nat.mul_le_mul_right _ (Nat.le_of_lt hlt)
          have b1 : hi.2 * (r * (k + 1)) = r * hi.2 * (k + 1) := by rw [← Nat.mul_assoc, Nat.mul_comm hi.2 r]
          have b2 : hi.2 * (c * s) = c * hi.2 * s := by rw [← Nat.mul_assoc, Nat.mul_comm hi.2 c]
          have b3 : hi.1 * s * (k + 1) = hi.1 * (k + 1) * s := Nat.mul_right_comm _ _ _
          omega
        have h3 := Nat.le_of_mul_le_mul_left h2 p1
        have h4 : (k + 1) * (u * s) ≤ (k + 1) * (r * v) := by
          have a1 : c * s * v ≤ r * (k + 1) * v := Nat.mul_le_mul_right _ h3
          have b1 : (k + 1) * (r * v) = r * (k + 1) * v := by rw [← Nat.mul_assoc, Nat.mul_comm (k + 1) r]
          have b2 : (k + 1) * (u * s) = u * (k + 1) * s := by rw [← Nat.mul_assoc, Nat.mul_comm (k + 1) u]
          have b3 : c * s * v = c * v * s := Nat.mul_right_comm _ _ _
          rw [b1, b2, eq]
          omega
        exact Nat.le_of_mul_le_mul_left h4 (by omega)
    · rw [if_neg (by simp only [takeH, Bool.and_eq_true, decide_eq_true_eq]; exact ht)]
      refine ⟨n0, by omega, p1, co, le, fun r s hr hs s0 hle => ?_⟩
      by_cases hsk : s = k + 1
      · subst hsk
        have h1 := hbest r hle
        have h2 : c * hi.2 ≤ r * hi.2 := Nat.mul_le_mul_right _ h1
        by_cases hcn : c ≤ n
        · have : ¬ c * hi.2 < hi.1 * (k + 1) := fun z => ht ⟨hcn, z⟩
          omega
        · omega
      · exact mn r s hr (by omega) s0 hle
theorem HiK.start (p q n : Nat) : HiK p q n 0 none := fun r s _ hs s0 => by omega
end Lk13

namespace Lk13
open PySem L2 DL PyProof.Rows Md Sh
def eT (x : D) (n : Nat) (lo : Nat × Nat) (hi : Option (Nat × Nat)) (a b : Option D) : En := [some (.f x), some (.f (.int (n : Int))), some (.f (pN lo.1 lo.2)), some (.f (encH hi)), a.map .f, b.map .f]
/-- one turn of the law's trying, the values of its parts given -/
theorem tr_turn {p q n s c c2 : Nat} {lo : Nat × Nat} {hi : Option (Nat × Nat)} {b : Option D} {t1 t2 : Bool} {U V : D}
    (m1 : MulOk (p : Int) (s : Int)) (hd : DivOk (q : Int)) (h1 : minD [.int (n : Int), .int ((p : Int) * (s : Int) / (q : Int))] = .ok (.f (.int (c : Int))))
    (l1 : S_less [.f (pN lo.1 lo.2), .f (.tuple [.int (c : Int), .int (s : Int)])] = .ok (.f (.bool t1), [])) (r1 : S_lratio [.f (.int (c : Int)), .f (.int (s : Int))] = .ok (.f U, []))
    (h2 : -(-((p : Int) * (s : Int)) / (q : Int)) = (c2 : Int)) (l2 : ∀ h, hi = some h → S_less [.f (.tuple [.int (c2 : Int), .int (s : Int)]), .f (pN h.1 h.2)] = .ok (.f (.bool t2), []))
    (r2 : S_lratio [.f (.int (c2 : Int)), .f (.int (s : Int))] = .ok (.f V, [])) :
    m_law_tried_b1 S_less S_lratio [some (.f (pN p q)), some (.f (.int (n : Int))), some (.f (pN lo.1 lo.2)), some (.f (encH hi)), some (.f (.int (s : Int))), b.map .f] = .nx [some (.f (pN p q)), some (.f (.int (n : Int))), some (.f (if t1 = true then U else pN lo.1 lo.2)), some (.f (if (decide (c2 ≤ n) && (hi.isNone || t2)) = true then V else encH hi)), some (.f (.int (s : Int))), some (.f (.int (c2 : Int)))] := by
  have hz : (0 : Int) - (0 - (p : Int) * (s : Int)) / (q : Int) = (c2 : Int) := by rw [← h2]; simp
  simp only [Int.zero_sub] at hz
  generalize hL : pN lo.1 lo.2 = L at *
  cases hi with
  | none =>
    by_cases hc : c2 ≤ n
    · have hcI : (c2 : Int) ≤ (n : Int) := by omega
      cases t1 <;> unfold pN <;> simp [m_law_tried_b1, encH, mulD_i m1, fdivD_i hd, h1, l1, r1, hz, r2, hc, hcI]
    · have hcI : ¬ (c2 : Int) ≤ (n : Int) := by omega
      cases t1 <;> unfold pN <;> simp [m_law_tried_b1, encH, mulD_i m1, fdivD_i hd, h1, l1, r1, hz, r2, hc, hcI]
  | some h =>
    have l2 := l2 h rfl
    by_cases hc : c2 ≤ n
    · have hcI : (c2 : Int) ≤ (n : Int) := by omega
      cases t1 <;> cases t2 <;> unfold pN at * <;> simp [m_law_tried_b1, encH, mulD_i m1, fdivD_i hd, h1, l1, r1, hz, r2, hc, hcI, l2, pN]
    · have hcI : ¬ (c2 : Int) ≤ (n : Int) := by omega
      cases t1 <;> unfold pN at * <;> simp [m_law_tried_b1, encH, mulD_i m1, fdivD_i hd, h1, l1, r1, hz, r2, hc, hcI, l2, pN]
end Lk13

namespace Lk13
open PySem L2 DL PyProof.Rows Md Sh
theorem ceil_int {a b : Nat} (hb : 0 < b) : -((-(a : Int)) / (b : Int)) = ((ceilN a b : Nat) : Int) := by
  have hb' : (0 : Int) < (b : Int) := by omega
  have h1 : a ≤ ceilN a b * b := (ceil_le hb).mp (Nat.le_refl _)
  have h1' : (a : Int) ≤ ((ceilN a b : Nat) : Int) * (b : Int) := by exact_mod_cast h1
  have h2 : -((ceilN a b : Nat) : Int) ≤ (-(a : Int)) / (b : Int) := by
    rw [Int.le_ediv_iff_mul_le hb', Int.neg_mul]
    omega
  have h3 : (-(a : Int)) / (b : Int) < -((ceilN a b : Nat) : Int) + 1 := by
    rw [Int.ediv_lt_iff_lt_mul hb', Int.add_mul, Int.neg_mul, Int.one_mul]
    by_cases h0 : ceilN a b = 0
    · rw [h0] at h1
      rw [h0]
      omega
    · have : ¬ ceilN a b ≤ ceilN a b - 1 := by omega
      rw [ceil_le hb] at this
      obtain ⟨n, hn⟩ : ∃ n, ceilN a b = n + 1 := ⟨ceilN a b - 1, by omega⟩
      rw [hn] at this ⊢
      rw [Nat.add_sub_cancel] at this
      have h4 : (n : Int) * (b : Int) < (a : Int) := by
        have : n * b < a := by omega
        exact_mod_cast this
      have e : ((n + 1 : Nat) : Int) * (b : Int) = (n : Int) * (b : Int) + (b : Int) := by
        rw [Int.natCast_add, Int.add_mul]
        simp
      rw [e]
      omega
  omega
theorem sm {n : Nat} (h : n < 2 ^ 40) : Bg (n : Int) := bg_small (by rw [Int.natAbs_natCast]; omega)
theorem less_n {a b c d : Nat} (h1 : a < 2 ^ 40) (h2 : b < 2 ^ 40) (h3 : c < 2 ^ 40) (h4 : d < 2 ^ 40) : S_less [.f (.tuple [.int (a : Int), .int (b : Int)]), .f (.tuple [.int (c : Int), .int (d : Int)])] = .ok (.f (.bool (decide (a * d < c * b))), []) := by
  rw [less_r (sm h1) (sm h2) (sm h3) (sm h4)]
  congr 5
  exact propext (by exact_mod_cast Iff.rfl)
theorem lratio_n {c s u v : Nat} (hs : 0 < s) (hs2 : s < 2 ^ 40) (h : redI (c : Int) (s : Int) = ((u : Int), (v : Int))) : S_lratio [.f (.int (c : Int)), .f (.int (s : Int))] = .ok (.f (pN u v), []) := by
  rw [lratio_r (by omega) (by omega), h]
  rfl
theorem tr_loop {p q n : Nat} (q0 : 0 < q) (pl : p < 1000) (ql : q < 1000) (nl : n < 1000) : ∀ (m k : Nat) (lo : Nat × Nat) (hi : Option (Nat × Nat)) (a b : Option D), k + m = n → BstL p q n k lo → HiK p q n k hi →
    ∃ (lo' : Nat × Nat) (hi' : Option (Nat × Nat)) (a' b' : Option D), loopL (tgN 4) (m_law_tried_b1 S_less S_lratio) (rgD ((k + 1 : Nat) : Int) m) (eT (pN p q) n lo hi a b) = .nx (eT (pN p q) n lo' hi' a' b') ∧ BstL p q n n lo' ∧ HiK p q n n hi' := by
  intro m
  induction m with
  | zero =>
    intro k lo hi a b hk h1 h2
    have : k = n := by omega
    subst this
    exact ⟨lo, hi, a, b, rfl, h1, h2⟩
  | succ m ih =>
    intro k lo hi a b hk h1 h2
    obtain ⟨c, hc⟩ : ∃ c, c = if p * (k + 1) / q < n then p * (k + 1) / q else n := ⟨_, rfl⟩
    obtain ⟨c2, hc2⟩ : ∃ c2, c2 = ceilN (p * (k + 1)) q := ⟨_, rfl⟩
    obtain ⟨u, v, R1, e1⟩ := red_ex (c := c) (s := k + 1) (by omega)
    obtain ⟨u2, v2, R2, e2⟩ := red_ex (c := c2) (s := k + 1) (by omega)
    have n1 := h1.next q0 hc R1
    have n2 := HiK.next h2 q0 hc2 R2
    have hcn : c ≤ n := by rw [hc]; split <;> omega
    have hps : p * (k + 1) < 1000000 := by
      have : p * (k + 1) ≤ 999 * 999 := Nat.mul_le_mul (by omega) (by omega)
      omega
    have hc2l : c2 ≤ p * (k + 1) := by
      rw [hc2, ceil_le q0]
      exact Nat.le_mul_of_pos_right _ q0
    have lo0 := h1.n0
    have lo1 := h1.n1
    have k1 := less_n (a := lo.1) (b := lo.2) (c := c) (d := k + 1) (by omega) (by omega) (by omega) (by omega)
    have r1 := lratio_n (c := c) (s := k + 1) (by omega) (by omega) e1
    have r2 := lratio_n (c := c2) (s := k + 1) (by omega) (by omega) e2
    have m1 : MulOk (p : Int) ((k + 1 : Nat) : Int) := bg_mul (sm (by omega)) (sm (by omega))
    have hd : DivOk (q : Int) := divOk_of (n := 40) (by omega) (by omega) (by decide)
    have hmin : minD [.int (n : Int), .int ((p : Int) * ((k + 1 : Nat) : Int) / (q : Int))] = .ok (.f (.int (c : Int))) := by
      have e : (p : Int) * ((k + 1 : Nat) : Int) / (q : Int) = ((p * (k + 1) / q : Nat) : Int) := by rw [Int.natCast_ediv, Int.natCast_mul]
      rw [e, minD_2, hc]
      by_cases hx : p * (k + 1) / q < n
      · rw [if_pos hx, if_pos (by omega)]
      · rw [if_neg hx, if_neg (by omega)]
    have hce : -(-((p : Int) * ((k + 1 : Nat) : Int)) / (q : Int)) = (c2 : Int) := by
      rw [hc2, ← ceil_int q0, Int.natCast_mul]
    have turn := tr_turn (p := p) (q := q) (n := n) (s := k + 1) (c := c) (c2 := c2) (lo := lo) (hi := hi) (b := b) (t1 := decide (lo.1 * (k + 1) < c * lo.2)) (t2 := (match hi with | none => false | some h => decide (c2 * h.2 < h.1 * (k + 1)))) m1 hd hmin k1 r1 hce (fun h e => by
      subst e
      have h2' : BstH p q n k h := h2
      have := h2'.n0
      have := h2'.n1
      exact less_n (by omega) (by omega) (by omega) (by omega)) r2
    have t : tgN 4 (.int ((k + 1 : Nat) : Int)) (eT (pN p q) n lo hi a b) = .ok [some (.f (pN p q)), some (.f (.int (n : Int))), some (.f (pN lo.1 lo.2)), some (.f (encH hi)), some (.f (.int ((k + 1 : Nat) : Int))), b.map .f] := tgN_f (a := a) rfl
    obtain ⟨lo', hi', a', b', g, g2⟩ := ih (k + 1) _ _ (some (.int ((k + 1 : Nat) : Int))) (some (.int (c2 : Int))) (by omega) n1 n2
    refine ⟨lo', hi', a', b', ?_, g2⟩
    have e3 : rgD ((k + 1 : Nat) : Int) (m + 1) = .int ((k + 1 : Nat) : Int) :: rgD (((k + 1 : Nat) : Int) + 1) m := rfl
    rw [e3, loop_nx t turn]
    refine Eq.trans ?_ g
    congr 1
    unfold eT
    congr 1
    congr 1
    congr 1
    · congr 2
      by_cases hx : lo.1 * (k + 1) < c * lo.2
      · rw [decide_eq_true hx, if_pos rfl, if_pos hx]
      · rw [decide_eq_false hx, if_neg (by simp), if_neg hx]
    · congr 1
      congr 2
      cases hi with
      | none =>
        by_cases hx : c2 ≤ n
        · rw [if_pos (by simp [hx]), if_pos (by simp [takeH, hx])]; rfl
        · rw [if_neg (by simp; omega), if_neg (by simp [takeH]; omega)]
      | some h =>
        by_cases hx : c2 ≤ n ∧ c2 * h.2 < h.1 * (k + 1)
        · rw [if_pos (by simp [hx.1, hx.2]), if_pos (by simp [takeH, hx.1, hx.2])]; rfl
        · rw [if_neg (by simpa using hx), if_neg (by simpa [takeH] using hx)]
end Lk13

namespace Lk13
open PySem L2 DL PyProof.Rows Md Sh
theorem rng2_r {ma : M (List D)} {e e' : En} {lo n : Int} (h : ma e = .ok ([.int lo, .int n], e')) (h1 : -(2 ^ 62) ≤ lo) (h2 : lo < 2 ^ 62) (h3 : -(2 ^ 62) ≤ n) (h4 : n < 2 ^ 62) : mRng2 ma e = .ok (rgD lo (n - lo).toNat, e') := by
  rw [mRng2_r, h]
  exact if_pos ⟨h1, h2, h3, h4⟩
theorem tried_rng {x L H : D} {n : Nat} (hn : n < 1000) : mRng2 (aCons (mC (.int 1)) (aCons (mZ (m2 addD (mH (mN (mVar 1))) (mH (mN (mC (.int 1)))))) aNil)) [some (.f x), some (.f (.int (n : Int))), some (.f L), some (.f H), none, none] = .ok (rgD 1 n, [some (.f x), some (.f (.int (n : Int))), some (.f L), some (.f H), none, none]) := by
  have h := rng2_r (ma := (aCons (mC (.int 1)) (aCons (mZ (m2 addD (mH (mN (mVar 1))) (mH (mN (mC (.int 1)))))) aNil))) (e := [some (.f x), some (.f (.int (n : Int))), some (.f L), some (.f H), none, none]) (lo := 1) (n := (n : Int) + 1) (by simp; rfl) (by decide) (by decide) (by omega) (by omega)
  have e : ((n : Int) + 1 - 1).toNat = n := by omega
  rw [h, e]
theorem for_r {m : M (List D)} {t : Tg} {b : En → Out} {e e' : En} {ds : List D} (h : m e = .ok (ds, e')) : sFor m t b e = loopL t b ds e' := by
  rw [sFor_r, h]
  rfl
theorem tried_s1 {x m : D} : sTgt (tgT [(tgN 2), (tgN 3)]) (mTup (aCons (mTup (aCons (mC (.int 0)) (aCons (mC (.int 1)) aNil))) (aCons (mC .none) aNil))) [some (.f x), some (.f m), none, none, none, none] = .nx [some (.f x), some (.f m), some (.f (.tuple [.int 0, .int 1])), some (.f .none), none, none] := by simp
theorem tried_s3 {x m L H : D} {a b : Option D} : sRet (mLst (aCons (mVar 2) (aCons (mVar 3) aNil))) [some (.f x), some (.f m), some (.f L), some (.f H), a.map .f, b.map .f] = .rt (.l false [L, H]) [some (.f x), some (.f m), some (.f L), some (.f H), a.map .f, b.map .f] := by simp
theorem tried_fin {x : D} {n : Nat} {lo : Nat × Nat} {hi : Option (Nat × Nat)} {a b : Option D} (hn : n < 1000) (g : loopL (tgN 4) (m_law_tried_b1 S_less S_lratio) (rgD 1 n) [some (.f x), some (.f (.int (n : Int))), some (.f (.tuple [.int 0, .int 1])), some (.f .none), none, none] = .nx [some (.f x), some (.f (.int (n : Int))), some (.f (pN lo.1 lo.2)), some (.f (encH hi)), a.map .f, b.map .f]) : runD 6 (m_law_tried S_less S_lratio) [.f x, .f (.int (n : Int))] = .ok (.l false [pN lo.1 lo.2, encH hi], []) := by
  have hf := for_r (t := tgN 4) (b := m_law_tried_b1 S_less S_lratio) (tried_rng (x := x) (L := .tuple [.int 0, .int 1]) (H := .none) hn)
  rw [g] at hf
  have key : m_law_tried S_less S_lratio [some (.f x), some (.f (.int (n : Int))), none, none, none, none] = .rt (.l false [pN lo.1 lo.2, encH hi]) [some (.f x), some (.f (.int (n : Int))), some (.f (pN lo.1 lo.2)), some (.f (encH hi)), a.map .f, b.map .f] := by
    unfold m_law_tried
    rw [seq_nx tried_s1, seq_nx hf]
    exact tried_s3
  rw [runD_r, show startE 6 [.f x, .f (.int (n : Int))] = [some (.f x), some (.f (.int (n : Int))), none, none, none, none] from rfl, key]
  rfl
theorem tried_run {p q n : Nat} (co : Nat.gcd p q = 1) (q0 : 0 < q) (n0 : 0 < n) (pl : p < 1000) (ql : q < 1000) (nl : n < 1000) {lo : Nat × Nat} {hi : Option (Nat × Nat)} (h : Bt p q n lo hi) : runD 6 (m_law_tried S_less S_lratio) [.f (pN p q), .f (.int (n : Int))] = .ok (.l false [pN lo.1 lo.2, encH hi], []) := by
  obtain ⟨lo', hi', a, b, g, h1, h2⟩ := tr_loop q0 pl ql nl n 0 (0, 1) none none none (by omega) (BstL.start p q n) (HiK.start p q n)
  have el : lo' = lo := best_uniq (h1.best n0) (h.best co q0)
  subst el
  have eh : hi' = hi := by
    cases hi' with
    | none =>
      cases hi with
      | none => rfl
      | some y =>
        exfalso
        have hb := h.bestH co q0
        have := (show NoH p q n n from h2) y.1 y.2 hb.n0 hb.n1 hb.p1
        have := hb.le
        omega
    | some y =>
      have hb := (show BstH p q n n y from h2).best
      cases hi with
      | none =>
        exfalso
        have := h.none_above y.1 y.2 hb.n0 hb.p1
        have := hb.le
        omega
      | some z => rw [bestH_uniq hb (h.bestH co q0)]
  subst eh
  exact tried_fin nl g
/-! nearest and near: both take low if it is no farther -/
def nearD (t : Bool) (lo : D) : Option D → D
  | none => lo
  | some h => if t = true then h else lo
theorem near_fin {x L : D} {hi : Option D} {A B : D} {t : Bool} (hN : ∀ h, hi = some h → h.isN = false) (h1 : ∀ h, hi = some h → S_lminus [.f h, .f x] = .ok (.f A, [])) (h2 : S_lminus [.f x, .f L] = .ok (.f B, [])) (h3 : S_less [.f A, .f B] = .ok (.f (.bool t), [])) :
    runD 3 (m_law_near S_less S_lminus) [.f x, .f L, .f (hi.getD .none)] = .ok (.f (nearD t L hi), []) := by
  cases hi with
  | none => simp [runD_r, startE, m_law_near, nearD]
  | some h =>
    have k := h1 h rfl
    have hn := hN h rfl
    cases t <;> simp [runD_r, startE, m_law_near, nearD, hn, k, h2, h3]
theorem nearest_fin {x m L : D} {hi : Option D} {A B : D} {z : Int} (hb : S_between [.f x, .f m] = .ok (.f (.tuple [.str "between", L, hi.getD .none]), [])) (hN : ∀ h, hi = some h → h.isN = false) (h1 : ∀ h, hi = some h → S_minus [.f h, .f x] = .ok (.f A, [])) (h2 : S_minus [.f x, .f L] = .ok (.f B, [])) (h3 : S_compare [.f B, .f A] = .ok (.f (.int z), [])) :
    runD 5 (m_nearest S_between S_compare S_minus) [.f x, .f m] = .ok (.f (nearD (decide (0 < z)) L hi), []) := by
  cases hi with
  | none => simp [runD_r, startE, m_nearest, nearD, hb]
  | some h =>
    have k := h1 h rfl
    have hn := hN h rfl
    by_cases hz : z ≤ 0
    · have : ¬ 0 < z := by omega
      simp [runD_r, startE, m_nearest, nearD, hb, hn, k, h2, h3, hz, this]
    · have : 0 < z := by omega
      simp [runD_r, startE, m_nearest, nearD, hb, hn, k, h2, h3, hz, this]
end Lk13

namespace Lk13
open PySem L2 DL PyProof.Rows Md Sh
theorem red_bg {a b : Int} (ha : Bg a) (hb : Bg b) : Bg (redI a b).1 ∧ Bg (redI a b).2 := by
  have key : ∀ x g : Int, Bg x → Bg (x / g) := fun x g h => Nat.lt_of_le_of_lt (Int.natAbs_ediv_le_natAbs x g) h
  exact ⟨key _ _ ha, key _ _ hb⟩
theorem mul150 {a b : Nat} (h : a < 2 ^ 150) (h2 : b < 2 ^ 150) : a * b < 2 ^ 300 := by
  have h3 : a * b ≤ 2 ^ 150 * 2 ^ 150 := Nat.mul_le_mul (Nat.le_of_lt h) (Nat.le_of_lt h2)
  have h4 : a * b < 2 ^ 150 * 2 ^ 150 := by
    rcases Nat.eq_zero_or_pos b with z | z
    · subst z; rw [Nat.mul_zero]; decide
    · exact Nat.lt_of_lt_of_le (Nat.mul_lt_mul_of_pos_right h z) (Nat.mul_le_mul_left _ (Nat.le_of_lt h2))
  rw [← Nat.pow_add] at h4
  exact h4
theorem sub_bg {x y : Nat} (h : x < 2 ^ 300) (h2 : y < 2 ^ 300) : Bg ((x : Int) - (y : Int)) := bg_le (n := 300) (by omega) (by decide)
theorem minus_n {a b c d : Nat} (ha : a < 2 ^ 150) (hb : b < 2 ^ 150) (hc : c < 2 ^ 150) (hd : d < 2 ^ 150) (b0 : 0 < b) (d0 : 0 < d) : S_minus [.f (pN a b), .f (pN c d)] = .ok (.f (qD (redI ((a : Int) * d - c * b) ((b : Int) * d))), []) ∧ Bg (redI ((a : Int) * d - c * b) ((b : Int) * d)).1 ∧ Bg (redI ((a : Int) * d - c * b) ((b : Int) * d)).2 := by
  have hbd : (0 : Int) < (b : Int) * (d : Int) := Int.mul_pos (by omega) (by omega)
  have g : ∀ {n : Nat}, n < 2 ^ 150 → Bg (n : Int) := fun h => big (lt_lim h (by decide))
  refine ⟨if_pos ⟨hbd, g ha, g hb, g hc, g hd⟩, ?_⟩
  have e1 : (a : Int) * d - c * b = ((a * d : Nat) : Int) - ((c * b : Nat) : Int) := by rw [Int.natCast_mul, Int.natCast_mul]
  have e2 : (b : Int) * d = ((b * d : Nat) : Int) := by rw [Int.natCast_mul]
  refine red_bg ?_ ?_
  · rw [e1]; exact sub_bg (mul150 ha hd) (mul150 hc hb)
  · rw [e2]; exact big (lt_lim (mul150 hb hd) (by decide))
theorem lminus_n {a b c d : Nat} (ha : a < 1000) (hb : b < 1000) (hc : c < 1000) (hd : d < 1000) (b0 : 0 < b) (d0 : 0 < d) : S_lminus [.f (pN a b), .f (pN c d)] = .ok (.f (qD (redI ((a : Int) * d - c * b) ((b : Int) * d))), []) := by
  have hbd : (0 : Int) < (b : Int) * (d : Int) := Int.mul_pos (by omega) (by omega)
  have h1 : b * d < 1000000 := by
    have : b * d ≤ 999 * 999 := Nat.mul_le_mul (by omega) (by omega)
    omega
  have h2 : (b : Int) * (d : Int) < 2 ^ 150 := by
    have e : (b : Int) * (d : Int) = ((b * d : Nat) : Int) := by rw [Int.natCast_mul]
    rw [e]
    omega
  have g : ∀ {n : Nat}, n < 1000 → Bg (n : Int) := fun h => sm (by omega)
  exact if_pos ⟨hbd, h2, g ha, g hb, g hc, g hd⟩
structure Sml (p q n : Nat) : Prop where
  d : Dm p q n
  p1 : p < 1000
  q1 : q < 1000
  n1 : n < 1000
theorem near_agree {p q n : Nat} (D : Sml p q n) {lo : Nat × Nat} {hi : Option (Nat × Nat)} (h : Bt p q n lo hi) (hb : S_between [.f (pN p q), .f (.int (n : Int))] = .ok (.f (tellD lo hi), [])) :
    ∃ t : Bool, runD 5 (m_nearest S_between S_compare S_minus) [.f (pN p q), .f (.int (n : Int))] = .ok (.f (nearD t (pN lo.1 lo.2) (hi.map fun x => pN x.1 x.2)), []) ∧ runD 3 (m_law_near S_less S_lminus) [.f (pN p q), .f (pN lo.1 lo.2), .f (encH hi)] = .ok (.f (nearD t (pN lo.1 lo.2) (hi.map fun x => pN x.1 x.2)), []) := by
  have B := h.best D.d.co D.d.q0
  have n1 := D.n1
  have b0 := B.n0
  have b1 := B.n1
  have p1 := D.p1
  have q1 := D.q1
  obtain ⟨e1, f1, f2⟩ := minus_n (a := p) (b := q) (c := lo.1) (d := lo.2) (by omega) (by omega) (by omega) (by omega) D.d.q0 B.p1
  have e1' := lminus_n (a := p) (b := q) (c := lo.1) (d := lo.2) (by omega) (by omega) (by omega) (by omega) D.d.q0 B.p1
  generalize redI ((p : Int) * lo.2 - lo.1 * q) ((q : Int) * lo.2) = Y at *
  have eE : encH hi = (hi.map fun x => pN x.1 x.2).getD .none := by cases hi <;> rfl
  unfold tellD at hb
  rw [eE] at hb ⊢
  have hN : ∀ x, (hi.map fun x : Nat × Nat => pN x.1 x.2) = some x → x.isN = false := by
    intro x hx
    cases hi with
    | none => cases hx
    | some y => cases hx; rfl
  cases hi with
  | none =>
    exact ⟨_, nearest_fin (A := qD Y) hb hN (fun x hx => by cases hx) e1 (compare_r f1 f2 f1 f2), near_fin (A := qD Y) hN (fun x hx => by cases hx) e1' (by rw [sgn_pos]; exact less_r f1 f2 f1 f2)⟩
  | some y =>
    have H := h.bestH D.d.co D.d.q0
    have c0 := H.n0
    have c1 := H.n1
    obtain ⟨e2, g1, g2⟩ := minus_n (a := y.1) (b := y.2) (c := p) (d := q) (by omega) (by omega) (by omega) (by omega) H.p1 D.d.q0
    have e2' := lminus_n (a := y.1) (b := y.2) (c := p) (d := q) (by omega) (by omega) (by omega) (by omega) H.p1 D.d.q0
    generalize redI ((y.1 : Int) * q - p * y.2) ((y.2 : Int) * q) = Z at *
    exact ⟨_, nearest_fin (A := qD Z) hb hN (fun x hx => by cases hx; exact e2) e1 (compare_r f1 f2 g1 g2), near_fin (A := qD Z) hN (fun x hx => by cases hx; exact e2') e1' (by rw [sgn_pos]; exact less_r g1 g2 f1 f2)⟩
end Lk13

namespace Lk13
open PySem L2 DL PyProof.Rows Md Sh
/-! ### the last promises -/
noncomputable def S_nearest : Sf := specR (fun cs => ∃ p q n, Sml p q n ∧ cs = [.f (pN p q), .f (.int (n : Int))]) 5 (m_nearest S_between S_compare S_minus)
theorem sem_nearest : ∀ cs c outs, S_nearest cs = .ok (c, outs) → cs.length = 2 ∧ runD 5 (m_nearest S_between S_compare S_minus) cs = .ok (c, outs) := specR_sem fun cs ⟨p, q, n, _, h⟩ => by rw [h]; rfl
noncomputable def S_law_near : Sf := specR (fun cs => ∃ x L H : D, cs = [.f x, .f L, .f H]) 3 (m_law_near S_less S_lminus)
theorem sem_law_near : ∀ cs c outs, S_law_near cs = .ok (c, outs) → cs.length = 3 ∧ runD 3 (m_law_near S_less S_lminus) cs = .ok (c, outs) := specR_sem fun cs ⟨x, L, H, h⟩ => by rw [h]; rfl
noncomputable def S_law_tried : Sf := specR (fun cs => ∃ p q n, Sml p q n ∧ cs = [.f (pN p q), .f (.int (n : Int))]) 6 (m_law_tried S_less S_lratio)
theorem sem_law_tried : ∀ cs c outs, S_law_tried cs = .ok (c, outs) → cs.length = 2 ∧ runD 6 (m_law_tried S_less S_lratio) cs = .ok (c, outs) := specR_sem fun cs ⟨p, q, n, _, h⟩ => by rw [h]; rfl
/-- all that one turn of the law asks of x and n -/
theorem turn_all {p q n : Nat} (D : Sml p q n) : ∃ (lo : Nat × Nat) (hi : Option (Nat × Nat)) (t : Bool), Bt p q n lo hi ∧ S_between [.f (pN p q), .f (.int (n : Int))] = .ok (.f (tellD lo hi), []) ∧
    S_law_tried [.f (pN p q), .f (.int (n : Int))] = .ok (.l false [pN lo.1 lo.2, encH hi], []) ∧ S_below [.f (pN p q), .f (.int (n : Int))] = .ok (.f (pN lo.1 lo.2), []) ∧ S_above [.f (pN p q), .f (.int (n : Int))] = .ok (.f (encH hi), []) ∧
    S_nearest [.f (pN p q), .f (.int (n : Int))] = .ok (.f (nearD t (pN lo.1 lo.2) (hi.map fun x => pN x.1 x.2)), []) ∧ S_law_near [.f (pN p q), .f (pN lo.1 lo.2), .f (encH hi)] = .ok (.f (nearD t (pN lo.1 lo.2) (hi.map fun x => pN x.1 x.2)), []) := by
  obtain ⟨lo, hi, hB, hb⟩ := between_r D.d
  obtain ⟨t, h1, h2⟩ := near_agree D hB hb
  refine ⟨lo, hi, t, hB, hb, ?_, below_r D.d hb, above_r D.d hb, ?_, ?_⟩
  · unfold S_law_tried
    rw [specR_ok ⟨p, q, n, D, rfl⟩, tried_run D.d.co D.d.q0 D.d.n0 D.p1 D.q1 D.n1 hB]
  · unfold S_nearest
    rw [specR_ok ⟨p, q, n, D, rfl⟩, h1]
  · unfold S_law_near
    rw [specR_ok ⟨_, _, _, rfl⟩, h2]
end Lk13

namespace Lk13
open PySem L2 DL PyProof.Rows Md Sh
/-- _law_pick -/
noncomputable def S_law_pick : Sf
  | [.l true [.list xs, .int a], .f (.list ts)] => if 0 ≤ a ∧ a < 2 ^ 62 ∧ xs.all D.isI = true ∧ 0 < ts.length then .ok (.f ((ts[(dv xs a 900 % (ts.length : Int)).toNat]?).getD .none), [.l true [.list xs, .int (a + 1)]]) else .no
  | _ => .no
theorem pick_fin {xs ts : List D} {a w i : Int} {d : D} (h1 : S_draw [.l true [.list xs, .int a], .f (.int 900)] = .ok (.f (.int w), [.l true [.list xs, .int (a + 1)]])) (h2 : modD (.int w) (.int (ts.length : Int)) = .ok (.f (.int i))) (h3 : ixD (.list ts) (.int i) = .ok (.f d)) :
    runD 2 (m_law_pick S_draw) [.l true [.list xs, .int a], .f (.list ts)] = .ok (.f d, [.l true [.list xs, .int (a + 1)]]) := by
  simp [runD_r, startE, m_law_pick, h1, h2, h3]
theorem sem_law_pick : ∀ cs c outs, S_law_pick cs = .ok (c, outs) → cs.length = 2 ∧ runD 2 (m_law_pick S_draw) cs = .ok (c, outs) := by
  intro cs c outs h
  unfold S_law_pick at h
  split at h
  · rename_i xs a ts
    obtain ⟨⟨h1, h2, h3, h4⟩, h⟩ := ite_ok h
    cases h
    have d1 := draw_r h3 h1 h2 (m := 900) (by decide) (by decide)
    have hl : (0 : Int) < (ts.length : Int) := by omega
    have i0 := Int.emod_nonneg (dv xs a 900) (show (ts.length : Int) ≠ 0 by omega)
    have i1 := Int.emod_lt_of_pos (dv xs a 900) hl
    have hx : ts[(dv xs a 900 % (ts.length : Int)).toNat]? = some (ts[(dv xs a 900 % (ts.length : Int)).toNat]'(by omega)) := List.getElem?_eq_getElem (by omega)
    rw [hx]
    exact ⟨rfl, pick_fin d1 (modD_i hl) (ixD_lN i0 hx)⟩
  · cases h
/-- a pick of three ints -/
theorem pick3 {xs : List D} {a x y z : Int} (hx : xs.all D.isI = true) (h1 : 0 ≤ a) (h2 : a < 2 ^ 62) : ∃ w, (w = x ∨ w = y ∨ w = z) ∧ S_law_pick [.l true [.list xs, .int a], .f (.list [.int x, .int y, .int z])] = .ok (.f (.int w), [.l true [.list xs, .int (a + 1)]]) := by
  have hS : S_law_pick [.l true [.list xs, .int a], .f (.list [.int x, .int y, .int z])] = .ok (.f (([D.int x, D.int y, D.int z][(dv xs a 900 % (3 : Int)).toNat]?).getD .none), [.l true [.list xs, .int (a + 1)]]) := if_pos ⟨h1, h2, hx, by simp⟩
  have i0 := Int.emod_nonneg (dv xs a 900) (show (3 : Int) ≠ 0 by omega)
  have i1 := Int.emod_lt_of_pos (dv xs a 900) (show (0 : Int) < 3 by omega)
  generalize dv xs a 900 % 3 = i at *
  rw [hS]
  rcases (show i = 0 ∨ i = 1 ∨ i = 2 by omega) with rfl | rfl | rfl
  · exact ⟨x, .inl rfl, rfl⟩
  · exact ⟨y, .inr (.inl rfl), rfl⟩
  · exact ⟨z, .inr (.inr rfl), rfl⟩
end Lk13

namespace Lk13
open PySem L2 DL PyProof.Rows Md Sh
/-- one paper: both tell alike -/
theorem paper_turn {p q n : Int} (X : Px p q n) (P : Pap) {e : En} (h3 : e[3]? = some (some (.f (.int n)))) (h4 : e[4]? = some (some (.f (.tuple [.int p, .int q])))) (h10 : e[10]? = some (some (.f P.d))) : m_law_b55304_b1 (S_like 2) S_law_right S_is_between e = .nx e := by
  have k1 := is_between_r X P
  have k2 := law_right_r X P
  have k3 : S_like 2 [.f (.bool (P.ok p q n)), .f (.bool (P.ok p q n))] = .ok (.f (.bool true), []) := like_r rfl
  simp [m_law_b55304_b1, h3, h4, h10, k1, k2, k3]
/-- all papers -/
theorem papers_loop {p q n : Int} (X : Px p q n) : ∀ (Ps : List Pap) (e : En) (o : Option D), e.length = 14 → e[3]? = some (some (.f (.int n))) → e[4]? = some (some (.f (.tuple [.int p, .int q]))) → e[10]? = some (o.map Ce.f) →
    ∃ o' : Option D, loopL (tgN 10) (m_law_b55304_b1 (S_like 2) S_law_right S_is_between) (Ps.map Pap.d) e = .nx (e.set 10 (o'.map Ce.f))
  | [], e, o, hl, h3, h4, h10 => ⟨o, by
    show Out.nx e = _
    congr 1
    apply List.ext_getElem?
    intro j
    by_cases hj : j = 10
    · subst hj; rw [h10, List.getElem?_set_self (by omega)]
    · rw [List.getElem?_set_ne (Ne.symm hj)]⟩
  | P :: Ps, e, o, hl, h3, h4, h10 => by
    have t : tgN 10 P.d e = .ok (e.set 10 (some (.f P.d))) := tgN_f h10
    have b := paper_turn X P (e := e.set 10 (some (.f P.d))) (by rw [List.getElem?_set_ne (by decide)]; exact h3) (by rw [List.getElem?_set_ne (by decide)]; exact h4) (List.getElem?_set_self (by omega))
    obtain ⟨o', g⟩ := papers_loop X Ps (e.set 10 (some (.f P.d))) (some P.d) (by simpa using hl) (by rw [List.getElem?_set_ne (by decide)]; exact h3) (by rw [List.getElem?_set_ne (by decide)]; exact h4) (List.getElem?_set_self (by omega))
    refine ⟨o', ?_⟩
    rw [List.map_cons, loop_nx t b, g, List.set_set]
end Lk13

namespace Lk13
open PySem L2 DL PyProof.Rows Md Sh
theorem px_of {p q n : Nat} (D : Dm p q n) : Px (p : Int) (q : Int) (n : Int) := by
  have h1 := D.pl
  have h2 := D.ql
  have h3 := D.nl
  have h4 := D.q0
  have h5 := D.n0
  exact ⟨by omega, by omega, by omega, by omega, by omega, by omega, by rw [Int.gcd_natCast_natCast]; exact D.co⟩
/-- a fraction drawn -/
theorem frac {s t : Int} (h1 : 0 ≤ s) (h2 : s < 1000) (h3 : 1 ≤ t) (h4 : t < 1000) : ∃ P Q : Nat, S_lratio [.f (.int s), .f (.int t)] = .ok (.f (pN P Q), []) ∧ P < 1000 ∧ 0 < Q ∧ Q < 1000 ∧ Nat.gcd P Q = 1 := by
  obtain ⟨A, rfl⟩ := Int.eq_ofNat_of_zero_le h1
  obtain ⟨B, rfl⟩ := Int.eq_ofNat_of_zero_le (show 0 ≤ t by omega)
  obtain ⟨u, v, R, e⟩ := red_ex (c := A) (s := B) (by omega)
  have := R.uc
  have := R.vs
  exact ⟨u, v, lratio_n (by omega) (by omega) e, by omega, R.v0, by omega, R.co⟩
end Lk13

namespace Lk13
open PySem L2 DL PyProof.Rows Md Sh
/-- the papers of one turn: near = (a, b) -/
def papers (n : Int) (lo : Nat × Nat) (hi : Option (Nat × Nat)) (a b : Int) : List Pap :=
  [.tri (some (if a - 1 > 0 then a - 1 else 0, 1)) (some (a, b)), .tri (some (a, b)) (some (a + 1, b)), .tri (some (oI lo)) (some (oI lo)), .tri (hi.map oI) (hi.map oI), .tri (some (0, 1)) (hi.map oI), .tri (some (oI lo)) none, .tri (some (oI lo)) (some (n, 1)), .two (.str "between") (pN lo.1 lo.2), .two (pN lo.1 lo.2) (encH hi), .non, .tri (hi.map oI) (some (oI lo))]
theorem qO_lo (lo : Nat × Nat) : qO (some (oI lo)) = pN lo.1 lo.2 := rfl
theorem qO_hi (hi : Option (Nat × Nat)) : qO (hi.map oI) = encH hi := by cases hi <;> rfl
theorem papers_d (n : Int) (lo : Nat × Nat) (hi : Option (Nat × Nat)) (a b : Int) : (papers n lo hi a b).map Pap.d =
    [.tuple [.str "between", .tuple [.int (if a - 1 > 0 then a - 1 else 0), .int 1], .tuple [.int a, .int b]], .tuple [.str "between", .tuple [.int a, .int b], .tuple [.int (a + 1), .int b]], .tuple [.str "between", pN lo.1 lo.2, pN lo.1 lo.2], .tuple [.str "between", encH hi, encH hi], .tuple [.str "between", .tuple [.int 0, .int 1], encH hi], .tuple [.str "between", pN lo.1 lo.2, .none], .tuple [.str "between", pN lo.1 lo.2, .tuple [.int n, .int 1]], .tuple [.str "between", pN lo.1 lo.2], .tuple [pN lo.1 lo.2, encH hi], .none, .tuple [.str "between", encH hi, pN lo.1 lo.2]] := by
  unfold papers
  simp only [List.map_cons, List.map_nil, Pap.d, papD, qO_lo, qO_hi]
  rfl
end Lk13

namespace Lk13
open PySem L2 DL PyProof.Rows Md Sh
/-! ### one turn, statement by statement -/
theorem u1 {r : D} {xs : List D} {t w d : Int} {c2 c3 c4 c5 c6 c7 c8 c9 c10 : Option D} (h1 : S_law_pick [.l true [.list xs, .int t], .f (.list [.int 3, .int 20, .int 60])] = .ok (.f (.int w), [.l true [.list xs, .int (t + 1)]])) (h2 : S_draw [.l true [.list xs, .int (t + 1)], .f (.int w)] = .ok (.f (.int d), [.l true [.list xs, .int (t + 1 + 1)]])) :
    sAsgF 3 (mZ (m2 addD (mH (mN (mC (.int 1)))) (mH (mCall S_draw (aCons (aS 1) (aCons (aD (mZ (mCall S_law_pick (aCons (aS 1) (aCons (aD (mZ (mLst (aCons (mC (.int 3)) (aCons (mC (.int 20)) (aCons (mC (.int 60)) aNil)))))) aNil))))) aNil)))))) [some (.f r), some (.l false [.list xs, .int t]), c2.map .f, c3.map .f, c4.map .f, c5.map .f, c6.map .f, c7.map .f, c8.map .f, c9.map .f, c10.map .f, none, none, none] = .nx [some (.f r), some (.l false [.list xs, .int (t + 1 + 1)]), c2.map .f, some (.f (.int (1 + d))), c4.map .f, c5.map .f, c6.map .f, c7.map .f, c8.map .f, c9.map .f, c10.map .f, none, none, none] := by
  simp [h1, h2]
theorem u2 {r X : D} {xs : List D} {t w d d0 : Int} {n : D} {c2 c4 c5 c6 c7 c8 c9 c10 : Option D} (h0 : S_draw [.l true [.list xs, .int t], .f (.int 900)] = .ok (.f (.int d0), [.l true [.list xs, .int (t + 1)]])) (h1 : S_law_pick [.l true [.list xs, .int (t + 1)], .f (.list [.int 5, .int 60, .int 900])] = .ok (.f (.int w), [.l true [.list xs, .int (t + 1 + 1)]])) (h2 : S_draw [.l true [.list xs, .int (t + 1 + 1)], .f (.int w)] = .ok (.f (.int d), [.l true [.list xs, .int (t + 1 + 1 + 1)]])) (h3 : S_lratio [.f (.int d0), .f (.int (1 + d))] = .ok (.f X, [])) :
    sAsgF 4 (mZ (mCall S_lratio (aCons (aD (mZ (mCall S_draw (aCons (aS 1) (aCons (aD (mC (.int 900))) aNil))))) (aCons (aD (mZ (m2 addD (mH (mN (mC (.int 1)))) (mH (mCall S_draw (aCons (aS 1) (aCons (aD (mZ (mCall S_law_pick (aCons (aS 1) (aCons (aD (mZ (mLst (aCons (mC (.int 5)) (aCons (mC (.int 60)) (aCons (mC (.int 900)) aNil)))))) aNil))))) aNil))))))) aNil)))) [some (.f r), some (.l false [.list xs, .int t]), c2.map .f, some (.f n), c4.map .f, c5.map .f, c6.map .f, c7.map .f, c8.map .f, c9.map .f, c10.map .f, none, none, none] = .nx [some (.f r), some (.l false [.list xs, .int (t + 1 + 1 + 1)]), c2.map .f, some (.f n), some (.f X), c5.map .f, c6.map .f, c7.map .f, c8.map .f, c9.map .f, c10.map .f, none, none, none] := by
  simp [h0, h1, h2, h3]
theorem u3 {r X L H n : D} {bx : Ce} {c2 c5 c6 c7 c8 c9 c10 : Option D} (h : S_law_tried [.f X, .f n] = .ok (.l false [L, H], [])) :
    sTgt (tgL [(tgN 5), (tgN 6)]) (mZ (mCall S_law_tried (aCons (aD (mVar 4)) (aCons (aD (mVar 3)) aNil)))) [some (.f r), some bx, c2.map .f, some (.f n), some (.f X), c5.map .f, c6.map .f, c7.map .f, c8.map .f, c9.map .f, c10.map .f, none, none, none] = .nx [some (.f r), some bx, c2.map .f, some (.f n), some (.f X), some (.f L), some (.f H), c7.map .f, c8.map .f, c9.map .f, c10.map .f, none, none, none] := by
  simp [h]
theorem u4 {r X L H N n : D} {bx : Ce} {c2 c7 c8 c9 c10 : Option D} (k1 : S_below [.f X, .f n] = .ok (.f L, [])) (k2 : S_above [.f X, .f n] = .ok (.f H, [])) (k3 : S_nearest [.f X, .f n] = .ok (.f N, [])) (k4 : S_law_near [.f X, .f L, .f H] = .ok (.f N, [])) (q1 : S_like 2 [.f L, .f L] = .ok (.f (.bool true), [])) (q2 : S_like 2 [.f H, .f H] = .ok (.f (.bool true), [])) (q3 : S_like 2 [.f N, .f N] = .ok (.f (.bool true), [])) :
    (sIf (mOr (mNot (mTru (mH (mCall (S_like 2) (aCons (aD (mZ (mCall S_below (aCons (aD (mVar 4)) (aCons (aD (mVar 3)) aNil))))) (aCons (aD (mVar 5)) aNil)))))) (mOr (mNot (mTru (mH (mCall (S_like 2) (aCons (aD (mZ (mCall S_above (aCons (aD (mVar 4)) (aCons (aD (mVar 3)) aNil))))) (aCons (aD (mVar 6)) aNil)))))) (mNot (mTru (mH (mCall (S_like 2) (aCons (aD (mZ (mCall S_nearest (aCons (aD (mVar 4)) (aCons (aD (mVar 3)) aNil))))) (aCons (aD (mZ (mCall S_law_near (aCons (aD (mVar 4)) (aCons (aD (mVar 5)) (aCons (aD (mVar 6)) aNil)))))) aNil)))))))) (sRet (mN (mC (.bool false)))) sNext) [some (.f r), some bx, c2.map .f, some (.f n), some (.f X), some (.f L), some (.f H), c7.map .f, c8.map .f, c9.map .f, c10.map .f, none, none, none] = .nx [some (.f r), some bx, c2.map .f, some (.f n), some (.f X), some (.f L), some (.f H), c7.map .f, c8.map .f, c9.map .f, c10.map .f, none, none, none] := by
  simp [k1, k2, k3, k4, q1, q2, q3]
theorem u5 {r X L H T n : D} {bx : Ce} {c2 c7 c8 c9 c10 : Option D} (k : S_between [.f X, .f n] = .ok (.f T, [])) : sAsgF 7 (mZ (mCall S_between (aCons (aD (mVar 4)) (aCons (aD (mVar 3)) aNil)))) [some (.f r), some bx, c2.map .f, some (.f n), some (.f X), some (.f L), some (.f H), c7.map .f, c8.map .f, c9.map .f, c10.map .f, none, none, none] = .nx [some (.f r), some bx, c2.map .f, some (.f n), some (.f X), some (.f L), some (.f H), some (.f T), c8.map .f, c9.map .f, c10.map .f, none, none, none] := by
  simp [k]
theorem u6 {r X L H T n : D} {bx : Ce} {c2 c8 c9 c10 : Option D} (k1 : S_law_right [.f X, .f n, .f T] = .ok (.f (.bool true), [])) (k2 : S_is_between [.f T, .f X, .f n] = .ok (.f (.bool true), [])) :
    (sIf (mOr (mNot (mTru (mH (mCall S_law_right (aCons (aD (mVar 4)) (aCons (aD (mVar 3)) (aCons (aD (mVar 7)) aNil))))))) (mBool (m2 isntD (mH (mCall S_is_between (aCons (aD (mVar 7)) (aCons (aD (mVar 4)) (aCons (aD (mVar 3)) aNil))))) (mH (mN (mC (.bool true))))))) (sRet (mN (mC (.bool false)))) sNext) [some (.f r), some bx, c2.map .f, some (.f n), some (.f X), some (.f L), some (.f H), some (.f T), c8.map .f, c9.map .f, c10.map .f, none, none, none] = .nx [some (.f r), some bx, c2.map .f, some (.f n), some (.f X), some (.f L), some (.f H), some (.f T), c8.map .f, c9.map .f, c10.map .f, none, none, none] := by
  simp [k1, k2, isntD]
theorem u7 {r X L H N T n : D} {bx : Ce} {c2 c8 c9 c10 : Option D} (k : S_law_near [.f X, .f L, .f H] = .ok (.f N, [])) : sAsgF 8 (mZ (mCall S_law_near (aCons (aD (mVar 4)) (aCons (aD (mVar 5)) (aCons (aD (mVar 6)) aNil))))) [some (.f r), some bx, c2.map .f, some (.f n), some (.f X), some (.f L), some (.f H), some (.f T), c8.map .f, c9.map .f, c10.map .f, none, none, none] = .nx [some (.f r), some bx, c2.map .f, some (.f n), some (.f X), some (.f L), some (.f H), some (.f T), some (.f N), c9.map .f, c10.map .f, none, none, none] := by
  simp [k]
theorem u8 {r X L H T n : D} {a b : Int} {bx : Ce} {c2 c9 c10 : Option D} :
    sAsgF 9 (mZ (mLst (aCons (mTup (aCons (mC (.str "between")) (aCons (mTup (aCons (mZ (mL maxD (aCons (mH (mN (mC (.int 0)))) (aCons (mH (m2 subD (mH (m2 ixD (mH (mN (mVar 8))) (mH (mN (mC (.int 0)))))) (mH (mN (mC (.int 1)))))) aNil)))) (aCons (mC (.int 1)) aNil))) (aCons (mVar 8) aNil)))) (aCons (mTup (aCons (mC (.str "between")) (aCons (mVar 8) (aCons (mTup (aCons (mZ (m2 addD (mH (m2 ixD (mH (mN (mVar 8))) (mH (mN (mC (.int 0)))))) (mH (mN (mC (.int 1)))))) (aCons (mZ (m2 ixD (mH (mN (mVar 8))) (mH (mN (mC (.int 1)))))) aNil))) aNil)))) aNil)))) [some (.f r), some bx, c2.map .f, some (.f n), some (.f X), some (.f L), some (.f H), some (.f T), some (.f (.tuple [.int a, .int b])), c9.map .f, c10.map .f, none, none, none] = .nx [some (.f r), some bx, c2.map .f, some (.f n), some (.f X), some (.f L), some (.f H), some (.f T), some (.f (.tuple [.int a, .int b])), some (.f (.list [.tuple [.str "between", .tuple [.int (if a - 1 > 0 then a - 1 else 0), .int 1], .tuple [.int a, .int b]], .tuple [.str "between", .tuple [.int a, .int b], .tuple [.int (a + 1), .int b]]])), c10.map .f, none, none, none] := by
  simp
theorem add_ll {a b : List D} (h : a.length + b.length ≤ 1000) : addD (.list a) (.list b) = .ok (.l false (a ++ b)) := by
  show (if a.length + b.length ≤ sizeLine then _ else _) = _
  exact if_pos (sizeLine_ge _ h)
theorem u9 {r X L H T N n : D} {p1 p2 : D} {bx : Ce} {c2 c10 : Option D} :
    sAsgF 9 (mZ (m2 addD (mH (mN (mVar 9))) (mH (mLst (aCons (mTup (aCons (mC (.str "between")) (aCons (mVar 5) (aCons (mVar 5) aNil)))) (aCons (mTup (aCons (mC (.str "between")) (aCons (mVar 6) (aCons (mVar 6) aNil)))) (aCons (mTup (aCons (mC (.str "between")) (aCons (mTup (aCons (mC (.int 0)) (aCons (mC (.int 1)) aNil))) (aCons (mVar 6) aNil)))) (aCons (mTup (aCons (mC (.str "between")) (aCons (mVar 5) (aCons (mC .none) aNil)))) (aCons (mTup (aCons (mC (.str "between")) (aCons (mVar 5) (aCons (mTup (aCons (mVar 3) (aCons (mC (.int 1)) aNil))) aNil)))) aNil))))))))) [some (.f r), some bx, c2.map .f, some (.f n), some (.f X), some (.f L), some (.f H), some (.f T), some (.f N), some (.f (.list [p1, p2])), c10.map .f, none, none, none] = .nx [some (.f r), some bx, c2.map .f, some (.f n), some (.f X), some (.f L), some (.f H), some (.f T), some (.f N), some (.f (.list [p1, p2, .tuple [.str "between", L, L], .tuple [.str "between", H, H], .tuple [.str "between", .tuple [.int 0, .int 1], H], .tuple [.str "between", L, .none], .tuple [.str "between", L, .tuple [n, .int 1]]])), c10.map .f, none, none, none] := by
  simp [add_ll]
end Lk13

namespace Lk13
open PySem L2 DL PyProof.Rows Md Sh
theorem sl_02 (a b c : D) : slD (.tuple [a, b, c]) none (some 2) = .ok (.f (.tuple [a, b])) := rfl
theorem sl_1 (a b c : D) : slD (.tuple [a, b, c]) (some 1) none = .ok (.f (.tuple [b, c])) := rfl
theorem u10 {r X L H N n : D} {p1 p2 p3 p4 p5 p6 p7 : D} {bx : Ce} {c2 c10 : Option D} :
    mSeqA (mZ (m2 addD (mH (mN (mVar 9))) (mH (mLst (aCons (mZ (mSlice (mH (mN (mVar 7))) mO0 (mO1 (mC (.int 2))))) (aCons (mZ (mSlice (mH (mN (mVar 7))) (mO1 (mC (.int 1))) mO0)) (aCons (mC .none) (aCons (mTup (aCons (mC (.str "between")) (aCons (mZ (m2 ixD (mH (mN (mVar 7))) (mH (mN (mC (.int 2)))))) (aCons (mZ (m2 ixD (mH (mN (mVar 7))) (mH (mN (mC (.int 1)))))) aNil)))) aNil)))))))) [some (.f r), some bx, c2.map .f, some (.f n), some (.f X), some (.f L), some (.f H), some (.f (.tuple [.str "between", L, H])), some (.f N), some (.f (.list [p1, p2, p3, p4, p5, p6, p7])), c10.map .f, none, none, none] = .ok ([p1, p2, p3, p4, p5, p6, p7, .tuple [.str "between", L], .tuple [L, H], .none, .tuple [.str "between", H, L]], [some (.f r), some bx, c2.map .f, some (.f n), some (.f X), some (.f L), some (.f H), some (.f (.tuple [.str "between", L, H])), some (.f N), some (.f (.list [p1, p2, p3, p4, p5, p6, p7])), c10.map .f, none, none, none]) := by
  simp [add_ll, sl_02, sl_1]
end Lk13

namespace Lk13
open PySem L2 DL PyProof.Rows Md Sh
noncomputable abbrev mT := m_law_b55304_b2 S_draw S_law_pick S_lratio S_law_tried (S_like 2) S_below S_above S_nearest S_law_near S_between S_law_right S_is_between
def eV (r : D) (xs : List D) (t : Int) (c2 c3 c4 c5 c6 c7 c8 c9 c10 : Option D) : En := [some (.f r), some (.l false [.list xs, .int t]), c2.map .f, c3.map .f, c4.map .f, c5.map .f, c6.map .f, c7.map .f, c8.map .f, c9.map .f, c10.map .f, none, none, none]
theorem nearD_pr (t : Bool) (lo : Nat × Nat) (hi : Option (Nat × Nat)) : ∃ a b : Int, nearD t (pN lo.1 lo.2) (hi.map fun x => pN x.1 x.2) = .tuple [.int a, .int b] := by
  cases hi with
  | none => exact ⟨_, _, rfl⟩
  | some y => cases t <;> exact ⟨_, _, rfl⟩
theorem for_r' {m : M (List D)} {t : Tg} {b : En → Out} {e e' : En} {ds : List D} (h : m e = .ok (ds, e')) : sFor m t b e = loopL t b ds e' := by
  rw [sFor_r, h]
  rfl
theorem turn_u {r : D} {xs : List D} {t w w2 d d0 d2 : Int} {c2 c3 c4 c5 c6 c7 c8 c9 c10 : Option D} {P Q N : Nat} (dd : Sml P Q N) (hN : 1 + d = (N : Int))
    (h1 : S_law_pick [.l true [.list xs, .int t], .f (.list [.int 3, .int 20, .int 60])] = .ok (.f (.int w), [.l true [.list xs, .int (t + 1)]])) (h2 : S_draw [.l true [.list xs, .int (t + 1)], .f (.int w)] = .ok (.f (.int d), [.l true [.list xs, .int (t + 1 + 1)]]))
    (h3 : S_draw [.l true [.list xs, .int (t + 1 + 1)], .f (.int 900)] = .ok (.f (.int d0), [.l true [.list xs, .int (t + 1 + 1 + 1)]])) (h4 : S_law_pick [.l true [.list xs, .int (t + 1 + 1 + 1)], .f (.list [.int 5, .int 60, .int 900])] = .ok (.f (.int w2), [.l true [.list xs, .int (t + 1 + 1 + 1 + 1)]])) (h5 : S_draw [.l true [.list xs, .int (t + 1 + 1 + 1 + 1)], .f (.int w2)] = .ok (.f (.int d2), [.l true [.list xs, .int (t + 1 + 1 + 1 + 1 + 1)]])) (h6 : S_lratio [.f (.int d0), .f (.int (1 + d2))] = .ok (.f (pN P Q), [])) :
    ∃ c3' c4' c5' c6' c7' c8' c9' c10' : Option D, mT (eV r xs t c2 c3 c4 c5 c6 c7 c8 c9 c10) = .nx (eV r xs (t + 1 + 1 + 1 + 1 + 1) c2 c3' c4' c5' c6' c7' c8' c9' c10') := by
  obtain ⟨lo, hi, tt, hB, k1, k2, k3, k4, k5, k6⟩ := turn_all dd
  have X := px_of dd.d
  have q1 : S_like 2 [.f (pN lo.1 lo.2), .f (pN lo.1 lo.2)] = .ok (.f (.bool true), []) := like_r rfl
  have q2 : S_like 2 [.f (encH hi), .f (encH hi)] = .ok (.f (.bool true), []) := like_r (by cases hi <;> rfl)
  obtain ⟨a, b, hab⟩ := nearD_pr tt lo hi
  rw [hab] at k5 k6
  have q3 : S_like 2 [.f (.tuple [.int a, .int b]), .f (.tuple [.int a, .int b])] = .ok (.f (.bool true), []) := like_r rfl
  have g1 := law_right_r X (Pap.tri (some (oI lo)) (hi.map oI))
  have g2 := is_between_r X (Pap.tri (some (oI lo)) (hi.map oI))
  rw [bt_ok dd.d.co dd.d.q0 hB, ← tell_pap] at g1 g2
  obtain ⟨o', gl⟩ := papers_loop X (papers (N : Int) lo hi a b) [some (.f r), some (.l false [.list xs, .int (t + 1 + 1 + 1 + 1 + 1)]), c2.map .f, some (.f (.int (N : Int))), some (.f (pN P Q)), some (.f (pN lo.1 lo.2)), some (.f (encH hi)), some (.f (tellD lo hi)), some (.f (.tuple [.int a, .int b])), some (.f (.list [.tuple [.str "between", .tuple [.int (if a - 1 > 0 then a - 1 else 0), .int 1], .tuple [.int a, .int b]], .tuple [.str "between", .tuple [.int a, .int b], .tuple [.int (a + 1), .int b]], .tuple [.str "between", pN lo.1 lo.2, pN lo.1 lo.2], .tuple [.str "between", encH hi, encH hi], .tuple [.str "between", .tuple [.int 0, .int 1], encH hi], .tuple [.str "between", pN lo.1 lo.2, .none], .tuple [.str "between", pN lo.1 lo.2, .tuple [.int (N : Int), .int 1]]])), c10.map .f, none, none, none] c10 rfl rfl rfl rfl
  rw [papers_d] at gl
  refine ⟨some (.int (N : Int)), some (pN P Q), some (pN lo.1 lo.2), some (encH hi), some (tellD lo hi), some (.tuple [.int a, .int b]), some (.list [.tuple [.str "between", .tuple [.int (if a - 1 > 0 then a - 1 else 0), .int 1], .tuple [.int a, .int b]], .tuple [.str "between", .tuple [.int a, .int b], .tuple [.int (a + 1), .int b]], .tuple [.str "between", pN lo.1 lo.2, pN lo.1 lo.2], .tuple [.str "between", encH hi, encH hi], .tuple [.str "between", .tuple [.int 0, .int 1], encH hi], .tuple [.str "between", pN lo.1 lo.2, .none], .tuple [.str "between", pN lo.1 lo.2, .tuple [.int (N : Int), .int 1]]]), o', ?_⟩
  have v1 := u1 (r := r) (c2 := c2) (c3 := c3) (c4 := c4) (c5 := c5) (c6 := c6) (c7 := c7) (c8 := c8) (c9 := c9) (c10 := c10) h1 h2
  rw [hN] at v1
  have v2 := u2 (r := r) (n := .int (N : Int)) (c2 := c2) (c4 := c4) (c5 := c5) (c6 := c6) (c7 := c7) (c8 := c8) (c9 := c9) (c10 := c10) h3 h4 h5 h6
  unfold mT m_law_b55304_b2 eV
  rw [seq_nx v1, seq_nx v2, seq_nx (u3 k2), seq_nx (u4 k3 k4 k5 k6 q1 q2 q3), seq_nx (u5 k1), seq_nx (u6 (X := pN P Q) g1 g2), seq_nx (u7 k6), seq_nx u8, seq_nx u9]
  exact (for_r' u10).trans gl
end Lk13

namespace Lk13
open PySem L2 DL PyProof.Rows Md Sh
theorem turn_v {r : D} {xs : List D} (hx : xs.all D.isI = true) {t : Int} (t0 : 0 ≤ t) (t1 : t < 1000) (c2 c3 c4 c5 c6 c7 c8 c9 c10 : Option D) : ∃ c3' c4' c5' c6' c7' c8' c9' c10' : Option D, mT (eV r xs t c2 c3 c4 c5 c6 c7 c8 c9 c10) = .nx (eV r xs (t + 1 + 1 + 1 + 1 + 1) c2 c3' c4' c5' c6' c7' c8' c9' c10') := by
  obtain ⟨w, hw, h1⟩ := pick3 (x := 3) (y := 20) (z := 60) hx t0 (by omega)
  have h2 := draw_r hx (a := t + 1) (m := w) (by omega) (by omega) (by omega) (by omega)
  have n2 := dv_nn (xs := xs) (a := t + 1) (m := w) (by omega)
  have l2 := dv_lt (xs := xs) (a := t + 1) (m := w) (by omega)
  have h3 := draw_r hx (a := t + 1 + 1) (m := 900) (by omega) (by omega) (by decide) (by decide)
  have n3 := dv_nn (xs := xs) (a := t + 1 + 1) (m := 900) (by decide)
  have l3 := dv_lt (xs := xs) (a := t + 1 + 1) (m := 900) (by decide)
  obtain ⟨w2, hw2, h4⟩ := pick3 (x := 5) (y := 60) (z := 900) hx (a := t + 1 + 1 + 1) (by omega) (by omega)
  have h5 := draw_r hx (a := t + 1 + 1 + 1 + 1) (m := w2) (by omega) (by omega) (by omega) (by omega)
  have n5 := dv_nn (xs := xs) (a := t + 1 + 1 + 1 + 1) (m := w2) (by omega)
  have l5 := dv_lt (xs := xs) (a := t + 1 + 1 + 1 + 1) (m := w2) (by omega)
  obtain ⟨P, Q, h6, P1, Q0, Q1, co⟩ := frac (s := dv xs (t + 1 + 1) 900) (t := 1 + dv xs (t + 1 + 1 + 1 + 1) w2) (by omega) (by omega) (by omega) (by omega)
  obtain ⟨N, hN⟩ := Int.eq_ofNat_of_zero_le (show 0 ≤ 1 + dv xs (t + 1) w by omega)
  have dd : Sml P Q N := ⟨⟨Q0, by omega, co, by omega, by omega, by omega⟩, P1, Q1, by omega⟩
  exact turn_u dd hN h1 h2 h3 h4 h5 h6
theorem st_turns {r : D} {xs : List D} (hx : xs.all D.isI = true) : ∃ c2 c3 c4 c5 c6 c7 c8 c9 c10 : Option D, loopL (tgN 2) mT (rgD 0 4) (eV r xs 0 none none none none none none none none none) = .nx (eV r xs 20 c2 c3 c4 c5 c6 c7 c8 c9 c10) := by
  have s1 : ∀ d t c2 c3 c4 c5 c6 c7 c8 c9 c10, tgN 2 d (eV r xs t c2 c3 c4 c5 c6 c7 c8 c9 c10) = .ok (eV r xs t (some d) c3 c4 c5 c6 c7 c8 c9 c10) := fun d t c2 c3 c4 c5 c6 c7 c8 c9 c10 => tgN_f (a := c2) rfl
  have step : ∀ (ds : List D) (d : D) (t t' : Int) (c2 c3 c4 c5 c6 c7 c8 c9 c10 : Option D), 0 ≤ t → t < 1000 → t' = t + 1 + 1 + 1 + 1 + 1 → ∃ c2' c3' c4' c5' c6' c7' c8' c9' c10' : Option D, loopL (tgN 2) mT (d :: ds) (eV r xs t c2 c3 c4 c5 c6 c7 c8 c9 c10) = loopL (tgN 2) mT ds (eV r xs t' c2' c3' c4' c5' c6' c7' c8' c9' c10') := by
    intro ds d t t' c2 c3 c4 c5 c6 c7 c8 c9 c10 h0 h1 ht
    obtain ⟨e3, e4, e5, e6, e7, e8, e9, e10, g⟩ := turn_v (r := r) hx h0 h1 (some d) c3 c4 c5 c6 c7 c8 c9 c10
    subst ht
    exact ⟨_, _, _, _, _, _, _, _, _, loop_nx (s1 _ _ _ _ _ _ _ _ _ _ _) g⟩
  show ∃ c2 c3 c4 c5 c6 c7 c8 c9 c10 : Option D, loopL (tgN 2) mT [.int 0, .int 1, .int 2, .int 3] _ = _
  obtain ⟨_, _, _, _, _, _, _, _, _, g1⟩ := step [.int 1, .int 2, .int 3] (.int 0) 0 5 none none none none none none none none none (by decide) (by decide) (by decide)
  rw [g1]
  obtain ⟨_, _, _, _, _, _, _, _, _, g2⟩ := step [.int 2, .int 3] (.int 1) 5 10 _ _ _ _ _ _ _ _ _ (by decide) (by decide) (by decide)
  rw [g2]
  obtain ⟨_, _, _, _, _, _, _, _, _, g3⟩ := step [.int 3] (.int 2) 10 15 _ _ _ _ _ _ _ _ _ (by decide) (by decide) (by decide)
  rw [g3]
  obtain ⟨_, _, _, _, _, _, _, _, _, g4⟩ := step [] (.int 3) 15 20 _ _ _ _ _ _ _ _ _ (by decide) (by decide) (by decide)
  rw [g4]
  exact ⟨_, _, _, _, _, _, _, _, _, rfl⟩
end Lk13

namespace Lk13
open PySem L2 DL PyProof.Rows Md Sh
noncomputable abbrev ML := m_law_b55304 S_digits S_draw S_law_pick S_lratio S_law_tried (S_like 2) S_below S_above S_nearest S_law_near S_between S_law_right S_is_between
/-- a loop that makes a number greater -/
theorem loop_grow {b : En → Out} {E : Int → Int → Option D → En} (hs : ∀ d a t c, tgN 12 d (E a t c) = .ok (E a t (some d)))
    (hb : ∀ a t c, 0 ≤ a → 0 ≤ t → t < 1000 → ∃ a', b (E a t c) = .nx (E a' (t + 1) c) ∧ a ≤ a' ∧ ∀ B, a < B → a' < 1000 * B) :
    ∀ (ds : List D) (a t : Int) (c : Option D) (B : Int), 0 ≤ a → 0 ≤ t → t + ds.length < 1000 → a < B → ∃ a' c', loopL (tgN 12) b ds (E a t c) = .nx (E a' (t + ds.length) c') ∧ a ≤ a' ∧ a' < 1000 ^ ds.length * B
  | [], a, t, c, B, h0, h1, h2, h3 => ⟨a, c, by rw [show t + (([] : List D).length : Int) = t by simp]; rfl, Int.le_refl _, by simpa using h3⟩
  | d :: ds, a, t, c, B, h0, h1, h2, h3 => by
    rw [List.length_cons] at h2
    obtain ⟨a1, k1, k2, k3⟩ := hb a t (some d) h0 h1 (by omega)
    obtain ⟨a2, c2, g1, g2, g3⟩ := loop_grow hs hb ds a1 (t + 1) (some d) (1000 * B) (by omega) (by omega) (by omega) (k3 B h3)
    refine ⟨a2, c2, ?_, by omega, ?_⟩
    · rw [loop_nx (hs d a t c) k1, g1, show t + 1 + (ds.length : Int) = t + ((d :: ds).length : Int) by rw [List.length_cons]; omega]
    · rw [List.length_cons, Int.pow_succ, Int.mul_assoc]; exact g3
theorem rgD_len : ∀ (lo : Int) (n : Nat), (rgD lo n).length = n
  | _, 0 => rfl
  | lo, n + 1 => congrArg (· + 1) (rgD_len (lo + 1) n)
theorem pow_B {k : Nat} (h : k ≤ 10) : (1000 : Int) ^ k ≤ 1000 ^ 10 := by
  have := Nat.pow_le_pow_right (n := 1000) (by decide) h
  exact_mod_cast this
section
variable {r : D} {xs : List D} {c2 c3 c4 c5 c6 c7 c8 c9 c10 c11 : Option D}
def eA (r : D) (xs : List D) (c2 c3 c4 c5 c6 c7 c8 c9 c10 : Option D) (a t : Int) (c : Option D) : En := [some (.f r), some (.l false [.list xs, .int t]), c2.map .f, c3.map .f, c4.map .f, c5.map .f, c6.map .f, c7.map .f, c8.map .f, c9.map .f, c10.map .f, some (.f (.int a)), c.map .f, none]
def eB (r : D) (xs : List D) (c2 c3 c4 c5 c6 c7 c8 c9 c10 c11 : Option D) (a t : Int) (c : Option D) : En := [some (.f r), some (.l false [.list xs, .int t]), c2.map .f, c3.map .f, c4.map .f, c5.map .f, c6.map .f, c7.map .f, c8.map .f, c9.map .f, c10.map .f, c11.map .f, c.map .f, some (.f (.int a))]
def eC (r : D) (xs : List D) (c2 c4 c5 c6 c7 c8 c9 c10 c11 c13 : Option D) (a t : Int) (c : Option D) : En := [some (.f r), some (.l false [.list xs, .int t]), c2.map .f, some (.f (.int a)), c4.map .f, c5.map .f, c6.map .f, c7.map .f, c8.map .f, c9.map .f, c10.map .f, c11.map .f, c.map .f, c13.map .f]
theorem tg_A (d : D) (a t : Int) (c : Option D) : tgN 12 d (eA r xs c2 c3 c4 c5 c6 c7 c8 c9 c10 a t c) = .ok (eA r xs c2 c3 c4 c5 c6 c7 c8 c9 c10 a t (some d)) := tgN_f (a := c) rfl
theorem tg_B (d : D) (a t : Int) (c : Option D) : tgN 12 d (eB r xs c2 c3 c4 c5 c6 c7 c8 c9 c10 c11 a t c) = .ok (eB r xs c2 c3 c4 c5 c6 c7 c8 c9 c10 c11 a t (some d)) := tgN_f (a := c) rfl
theorem tg_C {c13 : Option D} (d : D) (a t : Int) (c : Option D) : tgN 12 d (eC r xs c2 c4 c5 c6 c7 c8 c9 c10 c11 c13 a t c) = .ok (eC r xs c2 c4 c5 c6 c7 c8 c9 c10 c11 c13 a t (some d)) := tgN_f (a := c) rfl
theorem dr (hx : xs.all D.isI = true) {t m : Int} (h0 : 0 ≤ t) (h1 : t < 1000) (hm : 0 < m) (hm2 : m ≤ 1000) : ∃ d : Int, S_draw [.l true [.list xs, .int t], .f (.int m)] = .ok (.f (.int d), [.l true [.list xs, .int (t + 1)]]) ∧ 0 ≤ d ∧ d < m :=
  ⟨_, draw_r hx h0 (by omega) hm (by omega), dv_nn hm, dv_lt hm⟩
theorem st_A (hx : xs.all D.isI = true) (a t : Int) (c : Option D) (h0 : 0 ≤ a) (h1 : 0 ≤ t) (h2 : t < 1000) : ∃ a', m_law_b55304_b3 S_draw (eA r xs c2 c3 c4 c5 c6 c7 c8 c9 c10 a t c) = .nx (eA r xs c2 c3 c4 c5 c6 c7 c8 c9 c10 a' (t + 1) c) ∧ a ≤ a' ∧ ∀ B, a < B → a' < 1000 * B := by
  obtain ⟨d, hd, d0, d1⟩ := dr hx h1 h2 (m := 900) (by decide) (by decide)
  have m1 : MulOk a 997 := mulOk_r' (by decide) (by decide)
  refine ⟨a * 997 + d, ?_, by omega, fun B hB => by omega⟩
  simp [m_law_b55304_b3, eA, mulD_i m1, hd]
theorem st_B (hx : xs.all D.isI = true) (a t : Int) (c : Option D) (h0 : 0 ≤ a) (h1 : 0 ≤ t) (h2 : t < 1000) : ∃ a', m_law_b55304_b4 S_draw (eB r xs c2 c3 c4 c5 c6 c7 c8 c9 c10 c11 a t c) = .nx (eB r xs c2 c3 c4 c5 c6 c7 c8 c9 c10 c11 a' (t + 1) c) ∧ a ≤ a' ∧ ∀ B, a < B → a' < 1000 * B := by
  obtain ⟨d, hd, d0, d1⟩ := dr hx h1 h2 (m := 900) (by decide) (by decide)
  have m1 : MulOk a 991 := mulOk_r' (by decide) (by decide)
  refine ⟨a * 991 + d, ?_, by omega, fun B hB => by omega⟩
  simp [m_law_b55304_b4, eB, mulD_i m1, hd]
theorem st_C {c13 : Option D} (hx : xs.all D.isI = true) (a t : Int) (c : Option D) (h0 : 0 ≤ a) (h1 : 0 ≤ t) (h2 : t < 1000) : ∃ a', m_law_b55304_b5 S_draw (eC r xs c2 c4 c5 c6 c7 c8 c9 c10 c11 c13 a t c) = .nx (eC r xs c2 c4 c5 c6 c7 c8 c9 c10 c11 c13 a' (t + 1) c) ∧ a ≤ a' ∧ ∀ B, a < B → a' < 1000 * B := by
  obtain ⟨d, hd, d0, d1⟩ := dr hx h1 h2 (m := 900) (by decide) (by decide)
  have m1 : MulOk a 1000 := mulOk_r' (by decide) (by decide)
  refine ⟨a * 1000 + 1 + d, ?_, by omega, fun B hB => by omega⟩
  simp [m_law_b55304_b5, eC, mulD_i m1, hd]
theorem for_rg {ma : M (List D)} {b : En → Out} {e e' e2 : En} {n : Int} (h : ma e = .ok ([.int n], e')) (h1 : 0 ≤ n) (h2 : n < 1000) (g : loopL (tgN 12) b (rgD 0 n.toNat) e' = .nx e2) : sFor (mRng1 ma) (tgN 12) b e = .nx e2 :=
  (for_r' (rng1_r h (by omega) (by omega))).trans g
theorem fa (hx : xs.all D.isI = true) : ∃ (a t : Int) (c : Option D), sFor (mRng1 (aCons (mZ (m2 addD (mH (mN (mC (.int 2)))) (mH (mCall S_draw (aCons (aS 1) (aCons (aD (mC (.int 9))) aNil)))))) aNil)) (tgN 12) (m_law_b55304_b3 S_draw) (eA r xs c2 c3 c4 c5 c6 c7 c8 c9 c10 1 20 none) = .nx (eA r xs c2 c3 c4 c5 c6 c7 c8 c9 c10 a t c) ∧ 0 < a ∧ a < 2 ^ 150 ∧ 0 ≤ t ∧ t < 40 := by
  obtain ⟨d, hd, d0, d1⟩ := dr hx (t := 20) (m := 9) (by decide) (by decide) (by decide) (by decide)
  obtain ⟨a, c, g1, g2, g3⟩ := loop_grow (b := m_law_b55304_b3 S_draw) (E := eA r xs c2 c3 c4 c5 c6 c7 c8 c9 c10) tg_A (st_A hx) (rgD 0 (2 + d).toNat) 1 21 none 2 (by decide) (by decide) (by rw [rgD_len]; omega) (by decide)
  rw [rgD_len] at g1 g3
  have := pow_B (k := (2 + d).toNat) (by omega)
  refine ⟨a, _, c, for_rg (n := 2 + d) (e' := eA r xs c2 c3 c4 c5 c6 c7 c8 c9 c10 1 21 none) ?_ (by omega) (by omega) g1, by omega, ?_, by omega, by omega⟩
  · simp [eA, hd]
  · omega
theorem fb (hx : xs.all D.isI = true) {t : Int} (t0 : 0 ≤ t) (t1 : t < 40) {c : Option D} : ∃ (a t' : Int) (c' : Option D), sFor (mRng1 (aCons (mZ (m2 addD (mH (mN (mC (.int 2)))) (mH (mCall S_draw (aCons (aS 1) (aCons (aD (mC (.int 9))) aNil)))))) aNil)) (tgN 12) (m_law_b55304_b4 S_draw) (eB r xs c2 c3 c4 c5 c6 c7 c8 c9 c10 c11 1 t c) = .nx (eB r xs c2 c3 c4 c5 c6 c7 c8 c9 c10 c11 a t' c') ∧ 0 < a ∧ a < 2 ^ 150 ∧ 0 ≤ t' ∧ t' < 60 := by
  obtain ⟨d, hd, d0, d1⟩ := dr hx (t := t) (m := 9) (by omega) (by omega) (by decide) (by decide)
  obtain ⟨a, c', g1, g2, g3⟩ := loop_grow (b := m_law_b55304_b4 S_draw) (E := eB r xs c2 c3 c4 c5 c6 c7 c8 c9 c10 c11) tg_B (st_B hx) (rgD 0 (2 + d).toNat) 1 (t + 1) c 2 (by decide) (by omega) (by rw [rgD_len]; omega) (by decide)
  rw [rgD_len] at g1 g3
  have := pow_B (k := (2 + d).toNat) (by omega)
  refine ⟨a, _, c', for_rg (n := 2 + d) (e' := eB r xs c2 c3 c4 c5 c6 c7 c8 c9 c10 c11 1 (t + 1) c) ?_ (by omega) (by omega) g1, by omega, ?_, by omega, by omega⟩
  · simp [eB, hd]
  · omega
theorem fc (hx : xs.all D.isI = true) {t a0 : Int} (t0 : 0 ≤ t) (t1 : t < 70) (h0 : 0 ≤ a0) (h1 : a0 < 900) {c c13 : Option D} : ∃ (a t' : Int) (c' : Option D), sFor (mRng1 (aCons (mZ (mCall S_draw (aCons (aS 1) (aCons (aD (mC (.int 9))) aNil)))) aNil)) (tgN 12) (m_law_b55304_b5 S_draw) (eC r xs c2 c4 c5 c6 c7 c8 c9 c10 c11 c13 a0 t c) = .nx (eC r xs c2 c4 c5 c6 c7 c8 c9 c10 c11 c13 a t' c') ∧ 0 ≤ a ∧ a + 1 < 2 ^ 150 := by
  obtain ⟨d, hd, d0, d1⟩ := dr hx (t := t) (m := 9) (by omega) (by omega) (by decide) (by decide)
  obtain ⟨a, c', g1, g2, g3⟩ := loop_grow (b := m_law_b55304_b5 S_draw) (E := eC r xs c2 c4 c5 c6 c7 c8 c9 c10 c11 c13) tg_C (st_C hx) (rgD 0 d.toNat) a0 (t + 1) c 900 (by omega) (by omega) (by rw [rgD_len]; omega) (by omega)
  rw [rgD_len] at g1 g3
  have := pow_B (k := d.toNat) (by omega)
  refine ⟨a, _, c', for_rg (n := d) (e' := eC r xs c2 c4 c5 c6 c7 c8 c9 c10 c11 c13 a0 (t + 1) c) ?_ (by omega) (by omega) g1, by omega, ?_⟩
  · simp [eC, hd]
  · omega
theorem sret {xs' : Ce} {X n T L H : D} {c : Option D} {c13 : Option D} (k1 : S_law_right [.f X, .f n, .f T] = .ok (.f (.bool true), [])) (k2 : S_below [.f X, .f n] = .ok (.f L, [])) (k3 : S_above [.f X, .f n] = .ok (.f H, []))
    (hT : T = .tuple [.str "between", L, H]) (k4 : S_like 2 [.f (.tuple [L, H]), .f (.tuple [L, H])] = .ok (.f (.bool true), [])) (k5 : S_is_between [.f T, .f X, .f n] = .ok (.f (.bool true), [])) :
    (sRet (mAndV (mCall S_law_right (aCons (aD (mVar 4)) (aCons (aD (mVar 3)) (aCons (aD (mVar 7)) aNil)))) (mAndV (mCall (S_like 2) (aCons (aD (mTup (aCons (mZ (mCall S_below (aCons (aD (mVar 4)) (aCons (aD (mVar 3)) aNil)))) (aCons (mZ (mCall S_above (aCons (aD (mVar 4)) (aCons (aD (mVar 3)) aNil)))) aNil)))) (aCons (aD (mZ (mSlice (mH (mN (mVar 7))) (mO1 (mC (.int 1))) mO0))) aNil))) (m2 isD (mH (mCall S_is_between (aCons (aD (mVar 7)) (aCons (aD (mVar 4)) (aCons (aD (mVar 3)) aNil))))) (mH (mN (mC (.bool true)))))))) [some (.f r), some xs', c2.map .f, some (.f n), some (.f X), c5.map .f, c6.map .f, some (.f T), c8.map .f, c9.map .f, c10.map .f, c11.map .f, c.map .f, c13.map .f] = .rt (.f (.bool true)) [some (.f r), some xs', c2.map .f, some (.f n), some (.f X), c5.map .f, c6.map .f, some (.f T), c8.map .f, c9.map .f, c10.map .f, c11.map .f, c.map .f, c13.map .f] := by
  subst hT
  simp [k1, k2, k3, k4, k5, sl_1]
end
end Lk13

namespace Lk13
open PySem L2 DL PyProof.Rows Md Sh
section
variable {r : D} {xs : List D} {c2 c3 c4 c5 c6 c7 c8 c9 c10 c11 c12 c13 : Option D}
theorem z0 (hd : S_digits [.f r, .f (.int 0), .f (.int 63)] = .ok (.l false xs, [])) : sAsg 1 (mLst (aCons (mZ (mCall S_digits (aCons (aD (mVar 0)) (aCons (aD (mC (.int 0))) (aCons (aD (mC (.int 63))) aNil))))) (aCons (mC (.int 0)) aNil))) [some (.f r), none, none, none, none, none, none, none, none, none, none, none, none, none] = .nx (eV r xs 0 none none none none none none none none none) := by
  simp [hd, eV]
theorem z1 {b : En → Out} {e e' : En} (h : loopL (tgN 2) b (rgD 0 4) e = .nx e') : sFor (mRng1 (aCons (mC (.int 4)) aNil)) (tgN 2) b e = .nx e' :=
  (for_r' (rng1_r (n := 4) rfl (by decide) (by decide))).trans h
theorem z2 : sAsgF 11 (mC (.int 1)) (eV r xs 20 c2 c3 c4 c5 c6 c7 c8 c9 c10) = .nx (eA r xs c2 c3 c4 c5 c6 c7 c8 c9 c10 1 20 none) := by
  simp [eV, eA]
theorem z4 {a t : Int} : sAsgF 13 (mC (.int 1)) (eA r xs c2 c3 c4 c5 c6 c7 c8 c9 c10 a t c12) = .nx (eB r xs c2 c3 c4 c5 c6 c7 c8 c9 c10 (some (.int a)) 1 t c12) := by
  simp [eA, eB]
theorem z6 {b t d : Int} (hd : S_draw [.l true [.list xs, .int t], .f (.int 900)] = .ok (.f (.int d), [.l true [.list xs, .int (t + 1)]])) : sAsgF 3 (mZ (mCall S_draw (aCons (aS 1) (aCons (aD (mC (.int 900))) aNil)))) (eB r xs c2 c3 c4 c5 c6 c7 c8 c9 c10 c11 b t c12) = .nx (eC r xs c2 c4 c5 c6 c7 c8 c9 c10 c11 (some (.int b)) d (t + 1) c12) := by
  simp [eB, eC, hd]
theorem z8 {n t : Int} : sAsgF 3 (mZ (m2 addD (mH (mN (mVar 3))) (mH (mN (mC (.int 1)))))) (eC r xs c2 c4 c5 c6 c7 c8 c9 c10 c11 c13 n t c12) = .nx (eC r xs c2 c4 c5 c6 c7 c8 c9 c10 c11 c13 (n + 1) t c12) := by
  simp [eC]
theorem z9 {n t a b : Int} {X : D} (h : S_lratio [.f (.int a), .f (.int b)] = .ok (.f X, [])) : sAsgF 4 (mZ (mCall S_lratio (aCons (aD (mVar 11)) (aCons (aD (mVar 13)) aNil)))) (eC r xs c2 c4 c5 c6 c7 c8 c9 c10 (some (.int a)) (some (.int b)) n t c12) = .nx (eC r xs c2 (some X) c5 c6 c7 c8 c9 c10 (some (.int a)) (some (.int b)) n t c12) := by
  simp [eC, h]
theorem z10 {n t : Int} {X T : D} (h : S_between [.f X, .f (.int n)] = .ok (.f T, [])) : sAsgF 7 (mZ (mCall S_between (aCons (aD (mVar 4)) (aCons (aD (mVar 3)) aNil)))) (eC r xs c2 (some X) c5 c6 c7 c8 c9 c10 c11 c13 n t c12) = .nx (eC r xs c2 (some X) c5 c6 (some T) c8 c9 c10 c11 c13 n t c12) := by
  simp [eC, h]
theorem big_frac {a b : Int} (h1 : 0 < a) (h2 : a < 2 ^ 150) (h3 : 0 < b) (h4 : b < 2 ^ 150) : ∃ P Q : Nat, S_lratio [.f (.int a), .f (.int b)] = .ok (.f (pN P Q), []) ∧ P < 2 ^ 150 ∧ 0 < Q ∧ Q < 2 ^ 150 ∧ Nat.gcd P Q = 1 := by
  obtain ⟨A, rfl⟩ := Int.eq_ofNat_of_zero_le (show 0 ≤ a by omega)
  obtain ⟨B, rfl⟩ := Int.eq_ofNat_of_zero_le (show 0 ≤ b by omega)
  obtain ⟨u, v, R, e⟩ := red_ex (c := A) (s := B) (by omega)
  have h5 := R.uc
  have h6 := R.vs
  refine ⟨u, v, ?_, by omega, R.v0, by omega, R.co⟩
  rw [lratio_r h3 h4, e]
  rfl
end
theorem law_run (ns : List Int) : runD 14 ML [.f (.ro (ns.map .int))] = .ok (.f (.bool true), []) := by
  obtain ⟨ds, dl, hd⟩ := digits_r ns
  have hx := allI_ints ds
  obtain ⟨c2, c3, c4, c5, c6, c7, c8, c9, c10, g1⟩ := st_turns (r := .ro (ns.map .int)) hx
  obtain ⟨a, t, c, g2, a0, a1, t0, t1⟩ := fa (r := .ro (ns.map .int)) (c2 := c2) (c3 := c3) (c4 := c4) (c5 := c5) (c6 := c6) (c7 := c7) (c8 := c8) (c9 := c9) (c10 := c10) hx
  obtain ⟨b, t', c', g3, b0, b1, s0, s1⟩ := fb (r := .ro (ns.map .int)) (c2 := c2) (c3 := c3) (c4 := c4) (c5 := c5) (c6 := c6) (c7 := c7) (c8 := c8) (c9 := c9) (c10 := c10) (c11 := some (.int a)) hx t0 t1 (c := c)
  obtain ⟨d, hdr, d0, d1⟩ := dr hx (t := t') (m := 900) s0 (by omega) (by decide) (by decide)
  obtain ⟨n, t2, c3', g4, n0, n1⟩ := fc (r := .ro (ns.map .int)) (c2 := c2) (c4 := c4) (c5 := c5) (c6 := c6) (c7 := c7) (c8 := c8) (c9 := c9) (c10 := c10) (c11 := some (.int a)) (c13 := some (.int b)) (c := c') hx (t := t' + 1) (by omega) (by omega) d0 d1
  obtain ⟨P, Q, h6, P1, Q0, Q1, co⟩ := big_frac a0 a1 b0 b1
  obtain ⟨N, hN⟩ := Int.eq_ofNat_of_zero_le (show 0 ≤ n + 1 by omega)
  have dd : Dm P Q N := ⟨Q0, by omega, co, P1, Q1, by omega⟩
  obtain ⟨lo, hi, hB, hb⟩ := between_r dd
  have X := px_of dd
  have k1 := law_right_r X (Pap.tri (some (oI lo)) (hi.map oI))
  have k2 := is_between_r X (Pap.tri (some (oI lo)) (hi.map oI))
  rw [bt_ok dd.co dd.q0 hB, ← tell_pap] at k1 k2
  have q1 : S_like 2 [.f (.tuple [pN lo.1 lo.2, encH hi]), .f (.tuple [pN lo.1 lo.2, encH hi])] = .ok (.f (.bool true), []) := like_r (by cases hi <;> rfl)
  have hS := sret (r := .ro (ns.map .int)) (xs' := .l false [.list (ds.map .int), .int t2]) (c2 := c2) (c5 := c5) (c6 := c6) (c8 := c8) (c9 := c9) (c10 := c10) (c11 := some (.int a)) (c := c3') (c13 := some (.int b)) k1 (below_r dd hb) (above_r dd hb) rfl q1 k2
  rw [← hN] at hb hS
  obtain ⟨e, key⟩ : ∃ e, ML [some (.f (.ro (ns.map .int))), none, none, none, none, none, none, none, none, none, none, none, none, none] = .rt (.f (.bool true)) e := by
    unfold ML m_law_b55304
    rw [seq_nx (z0 hd), seq_nx (z1 g1), seq_nx z2, seq_nx g2, seq_nx z4, seq_nx g3, seq_nx (z6 hdr), seq_nx g4, seq_nx z8, seq_nx (z9 h6), seq_nx (z10 hb)]
    exact ⟨_, hS⟩
  rw [runD_r, show startE 14 [.f (.ro (ns.map .int))] = [some (.f (.ro (ns.map .int))), none, none, none, none, none, none, none, none, none, none, none, none, none] from rfl, key]
  rfl
end Lk13

namespace Lk13
open PySem L2 DL PyProof.Rows Md Sh
theorem all_mk {l : PySem.W.OpenLaw} {w : World} {K : PySem.W.Frag} {h : Heap} {mg : Str → Option Value} {fa f0 f1 f2 f3 f4 f5 f6 f7 f8 f9 f10 f11 f12 f13 f14 f15 f16 f17 f18 f19 f20 f21 f22 f23 f24 f25 f26 : Addr} (X : K.In h) (G : h.Ns mainGlobals mg) (hfa : mg "law" = some (.ref fa))
    {od0 an0 od1 an1 od2 an2 od3 an3 od4 an4 od5 an5 od6 an6 od7 an7 od8 an8 od9 an9 od10 an10 od11 an11 od12 an12 od13 an13 od14 an14 od15 an15 od16 an16 od17 an17 od18 an18 od19 an19 od20 an20 od21 an21 od22 an22 od23 an23 od24 an24 od25 an25 od26 an26 : Option Addr} {sl0 sl1 sl2 sl3 sl4 sl5 sl6 sl7 sl8 sl9 sl10 sl11 sl12 sl13 sl14 sl15 sl16 sl17 sl18 sl19 sl20 sl21 sl22 sl23 sl24 sl25 sl26 : Array (Option Value)} {oc0 kV0 dc0 pm0 cd0 ct0 oc1 kV1 dc1 pm1 cd1 ct1 oc2 kV2 dc2 pm2 cd2 ct2 oc3 kV3 dc3 pm3 cd3 ct3 oc4 kV4 dc4 pm4 cd4 ct4 oc5 kV5 dc5 pm5 cd5 ct5 oc6 kV6 dc6 pm6 cd6 ct6 oc7 kV7 dc7 pm7 cd7 ct7 oc8 kV8 dc8 pm8 cd8 ct8 oc9 kV9 dc9 pm9 cd9 ct9 oc10 kV10 dc10 pm10 cd10 ct10 oc11 kV11 dc11 pm11 cd11 ct11 oc12 kV12 dc12 pm12 cd12 ct12 oc13 kV13 dc13 pm13 cd13 ct13 oc14 kV14 dc14 pm14 cd14 ct14 oc15 kV15 dc15 pm15 cd15 ct15 oc16 kV16 dc16 pm16 cd16 ct16 oc17 kV17 dc17 pm17 cd17 ct17 oc18 kV18 dc18 pm18 cd18 ct18 oc19 kV19 dc19 pm19 cd19 ct19 oc20 kV20 dc20 pm20 cd20 ct20 oc21 kV21 dc21 pm21 cd21 ct21 oc22 kV22 dc22 pm22 cd22 ct22 oc23 kV23 dc23 pm23 cd23 ct23 oc24 kV24 dc24 pm24 cd24 ct24 oc25 kV25 dc25 pm25 cd25 ct25 oc26 kV26 dc26 pm26 cd26 ct26 : Value}
    (a0 : PySem.W.nsIn K mainGlobals "_law_cell" = some (some (.ref f0))) (l0 : K.lookup f0 = some ⟨oc0, od0, .func (PySem.W.fnOf "_law_cell" "_law_cell" (defArgs s_law_cell) (defBody s_law_cell) (defScope s_law_cell) .none kV0 dc0 pm0 an0 cd0 ct0), sl0⟩) (c0 : PySem.W.codeIn K cd0 "_law_cell" = true) (k0 : PySem.W.keepIn K (.ref f0) = true)
    (a1 : PySem.W.nsIn K mainGlobals "_law_digits" = some (some (.ref f1))) (l1 : K.lookup f1 = some ⟨oc1, od1, .func (PySem.W.fnOf "_law_digits" "_law_digits" (defArgs s_law_digits) (defBody s_law_digits) (defScope s_law_digits) .none kV1 dc1 pm1 an1 cd1 ct1), sl1⟩) (c1 : PySem.W.codeIn K cd1 "_law_digits" = true) (k1 : PySem.W.keepIn K (.ref f1) = true)
    (a2 : PySem.W.nsIn K mainGlobals "_law_draw" = some (some (.ref f2))) (l2 : K.lookup f2 = some ⟨oc2, od2, .func (PySem.W.fnOf "_law_draw" "_law_draw" (defArgs s_law_draw) (defBody s_law_draw) (defScope s_law_draw) .none kV2 dc2 pm2 an2 cd2 ct2), sl2⟩) (c2 : PySem.W.codeIn K cd2 "_law_draw" = true) (k2 : PySem.W.keepIn K (.ref f2) = true)
    (a3 : PySem.W.nsIn K mainGlobals "_law_pick" = some (some (.ref f3))) (l3 : K.lookup f3 = some ⟨oc3, od3, .func (PySem.W.fnOf "_law_pick" "_law_pick" (defArgs s_law_pick) (defBody s_law_pick) (defScope s_law_pick) .none kV3 dc3 pm3 an3 cd3 ct3), sl3⟩) (c3 : PySem.W.codeIn K cd3 "_law_pick" = true) (k3 : PySem.W.keepIn K (.ref f3) = true)
    (a4 : PySem.W.nsIn K mainGlobals "_law_gcd" = some (some (.ref f4))) (l4 : K.lookup f4 = some ⟨oc4, od4, .func (PySem.W.fnOf "_law_gcd" "_law_gcd" (defArgs s_law_gcd) (defBody s_law_gcd) (defScope s_law_gcd) .none kV4 dc4 pm4 an4 cd4 ct4), sl4⟩) (c4 : PySem.W.codeIn K cd4 "_law_gcd" = true) (k4 : PySem.W.keepIn K (.ref f4) = true)
    (a5 : PySem.W.nsIn K mainGlobals "_law_ratio" = some (some (.ref f5))) (l5 : K.lookup f5 = some ⟨oc5, od5, .func (PySem.W.fnOf "_law_ratio" "_law_ratio" (defArgs s_law_ratio) (defBody s_law_ratio) (defScope s_law_ratio) .none kV5 dc5 pm5 an5 cd5 ct5), sl5⟩) (c5 : PySem.W.codeIn K cd5 "_law_ratio" = true) (k5 : PySem.W.keepIn K (.ref f5) = true)
    (a6 : PySem.W.nsIn K mainGlobals "_law_less" = some (some (.ref f6))) (l6 : K.lookup f6 = some ⟨oc6, od6, .func (PySem.W.fnOf "_law_less" "_law_less" (defArgs s_law_less) (defBody s_law_less) (defScope s_law_less) .none kV6 dc6 pm6 an6 cd6 ct6), sl6⟩) (c6 : PySem.W.codeIn K cd6 "_law_less" = true) (k6 : PySem.W.keepIn K (.ref f6) = true)
    (a7 : PySem.W.nsIn K mainGlobals "_law_tried" = some (some (.ref f7))) (l7 : K.lookup f7 = some ⟨oc7, od7, .func (PySem.W.fnOf "_law_tried" "_law_tried" (defArgs s_law_tried) (defBody s_law_tried) (defScope s_law_tried) .none kV7 dc7 pm7 an7 cd7 ct7), sl7⟩) (c7 : PySem.W.codeIn K cd7 "_law_tried" = true) (k7 : PySem.W.keepIn K (.ref f7) = true)
    (a8 : PySem.W.nsIn K mainGlobals "_law_like" = some (some (.ref f8))) (l8 : K.lookup f8 = some ⟨oc8, od8, .func (PySem.W.fnOf "_law_like" "_law_like" (defArgs s_law_like) (defBody s_law_like) (defScope s_law_like) .none kV8 dc8 pm8 an8 cd8 ct8), sl8⟩) (c8 : PySem.W.codeIn K cd8 "_law_like" = true) (k8 : PySem.W.keepIn K (.ref f8) = true)
    (a9 : PySem.W.nsIn K mainGlobals "advanced" = some (some (.ref f9))) (l9 : K.lookup f9 = some ⟨oc9, od9, .func (PySem.W.fnOf "advanced" "advanced" (defArgs s_advanced) (defBody s_advanced) (defScope s_advanced) .none kV9 dc9 pm9 an9 cd9 ct9), sl9⟩) (c9 : PySem.W.codeIn K cd9 "advanced" = true) (k9 : PySem.W.keepIn K (.ref f9) = true)
    (a10 : PySem.W.nsIn K mainGlobals "between" = some (some (.ref f10))) (l10 : K.lookup f10 = some ⟨oc10, od10, .func (PySem.W.fnOf "between" "between" (defArgs s_between) (defBody s_between) (defScope s_between) .none kV10 dc10 pm10 an10 cd10 ct10), sl10⟩) (c10 : PySem.W.codeIn K cd10 "between" = true) (k10 : PySem.W.keepIn K (.ref f10) = true)
    (a11 : PySem.W.nsIn K mainGlobals "below" = some (some (.ref f11))) (l11 : K.lookup f11 = some ⟨oc11, od11, .func (PySem.W.fnOf "below" "below" (defArgs s_below) (defBody s_below) (defScope s_below) .none kV11 dc11 pm11 an11 cd11 ct11), sl11⟩) (c11 : PySem.W.codeIn K cd11 "below" = true) (k11 : PySem.W.keepIn K (.ref f11) = true)
    (a12 : PySem.W.nsIn K mainGlobals "above" = some (some (.ref f12))) (l12 : K.lookup f12 = some ⟨oc12, od12, .func (PySem.W.fnOf "above" "above" (defArgs s_above) (defBody s_above) (defScope s_above) .none kV12 dc12 pm12 an12 cd12 ct12), sl12⟩) (c12 : PySem.W.codeIn K cd12 "above" = true) (k12 : PySem.W.keepIn K (.ref f12) = true)
    (a13 : PySem.W.nsIn K mainGlobals "compare" = some (some (.ref f13))) (l13 : K.lookup f13 = some ⟨oc13, od13, .func (PySem.W.fnOf "compare" "compare" (defArgs s_compare) (defBody s_compare) (defScope s_compare) .none kV13 dc13 pm13 an13 cd13 ct13), sl13⟩) (c13 : PySem.W.codeIn K cd13 "compare" = true) (k13 : PySem.W.keepIn K (.ref f13) = true)
    (a14 : PySem.W.nsIn K mainGlobals "ratio" = some (some (.ref f14))) (l14 : K.lookup f14 = some ⟨oc14, od14, .func (PySem.W.fnOf "ratio" "ratio" (defArgs s_ratio) (defBody s_ratio) (defScope s_ratio) .none kV14 dc14 pm14 an14 cd14 ct14), sl14⟩) (c14 : PySem.W.codeIn K cd14 "ratio" = true) (k14 : PySem.W.keepIn K (.ref f14) = true)
    (a15 : PySem.W.nsIn K mainGlobals "minus" = some (some (.ref f15))) (l15 : K.lookup f15 = some ⟨oc15, od15, .func (PySem.W.fnOf "minus" "minus" (defArgs s_minus) (defBody s_minus) (defScope s_minus) .none kV15 dc15 pm15 an15 cd15 ct15), sl15⟩) (c15 : PySem.W.codeIn K cd15 "minus" = true) (k15 : PySem.W.keepIn K (.ref f15) = true)
    (a16 : PySem.W.nsIn K mainGlobals "nearest" = some (some (.ref f16))) (l16 : K.lookup f16 = some ⟨oc16, od16, .func (PySem.W.fnOf "nearest" "nearest" (defArgs s_nearest) (defBody s_nearest) (defScope s_nearest) .none kV16 dc16 pm16 an16 cd16 ct16), sl16⟩) (c16 : PySem.W.codeIn K cd16 "nearest" = true) (k16 : PySem.W.keepIn K (.ref f16) = true)
    (a17 : PySem.W.nsIn K mainGlobals "_law_minus" = some (some (.ref f17))) (l17 : K.lookup f17 = some ⟨oc17, od17, .func (PySem.W.fnOf "_law_minus" "_law_minus" (defArgs s_law_minus) (defBody s_law_minus) (defScope s_law_minus) .none kV17 dc17 pm17 an17 cd17 ct17), sl17⟩) (c17 : PySem.W.codeIn K cd17 "_law_minus" = true) (k17 : PySem.W.keepIn K (.ref f17) = true)
    (a18 : PySem.W.nsIn K mainGlobals "_law_near" = some (some (.ref f18))) (l18 : K.lookup f18 = some ⟨oc18, od18, .func (PySem.W.fnOf "_law_near" "_law_near" (defArgs s_law_near) (defBody s_law_near) (defScope s_law_near) .none kV18 dc18 pm18 an18 cd18 ct18), sl18⟩) (c18 : PySem.W.codeIn K cd18 "_law_near" = true) (k18 : PySem.W.keepIn K (.ref f18) = true)
    (a19 : PySem.W.nsIn K mainGlobals "_law_number" = some (some (.ref f19))) (l19 : K.lookup f19 = some ⟨oc19, od19, .func (PySem.W.fnOf "_law_number" "_law_number" (defArgs s_law_number) (defBody s_law_number) (defScope s_law_number) .none kV19 dc19 pm19 an19 cd19 ct19), sl19⟩) (c19 : PySem.W.codeIn K cd19 "_law_number" = true) (k19 : PySem.W.keepIn K (.ref f19) = true)
    (a20 : PySem.W.nsIn K mainGlobals "_law_is_within" = some (some (.ref f20))) (l20 : K.lookup f20 = some ⟨oc20, od20, .func (PySem.W.fnOf "_law_is_within" "_law_is_within" (defArgs s_law_is_within) (defBody s_law_is_within) (defScope s_law_is_within) .none kV20 dc20 pm20 an20 cd20 ct20), sl20⟩) (c20 : PySem.W.codeIn K cd20 "_law_is_within" = true) (k20 : PySem.W.keepIn K (.ref f20) = true)
    (a21 : PySem.W.nsIn K mainGlobals "_law_right" = some (some (.ref f21))) (l21 : K.lookup f21 = some ⟨oc21, od21, .func (PySem.W.fnOf "_law_right" "_law_right" (defArgs s_law_right) (defBody s_law_right) (defScope s_law_right) .none kV21 dc21 pm21 an21 cd21 ct21), sl21⟩) (c21 : PySem.W.codeIn K cd21 "_law_right" = true) (k21 : PySem.W.keepIn K (.ref f21) = true)
    (a22 : PySem.W.nsIn K mainGlobals "is_integer" = some (some (.ref f22))) (l22 : K.lookup f22 = some ⟨oc22, od22, .func (PySem.W.fnOf "is_integer" "is_integer" (defArgs s_is_integer) (defBody s_is_integer) (defScope s_is_integer) .none kV22 dc22 pm22 an22 cd22 ct22), sl22⟩) (c22 : PySem.W.codeIn K cd22 "is_integer" = true) (k22 : PySem.W.keepIn K (.ref f22) = true)
    (a23 : PySem.W.nsIn K mainGlobals "is_ratio" = some (some (.ref f23))) (l23 : K.lookup f23 = some ⟨oc23, od23, .func (PySem.W.fnOf "is_ratio" "is_ratio" (defArgs s_is_ratio) (defBody s_is_ratio) (defScope s_is_ratio) .none kV23 dc23 pm23 an23 cd23 ct23), sl23⟩) (c23 : PySem.W.codeIn K cd23 "is_ratio" = true) (k23 : PySem.W.keepIn K (.ref f23) = true)
    (a24 : PySem.W.nsIn K mainGlobals "is_within" = some (some (.ref f24))) (l24 : K.lookup f24 = some ⟨oc24, od24, .func (PySem.W.fnOf "is_within" "is_within" (defArgs s_is_within) (defBody s_is_within) (defScope s_is_within) .none kV24 dc24 pm24 an24 cd24 ct24), sl24⟩) (c24 : PySem.W.codeIn K cd24 "is_within" = true) (k24 : PySem.W.keepIn K (.ref f24) = true)
    (a25 : PySem.W.nsIn K mainGlobals "is_between" = some (some (.ref f25))) (l25 : K.lookup f25 = some ⟨oc25, od25, .func (PySem.W.fnOf "is_between" "is_between" (defArgs s_is_between) (defBody s_is_between) (defScope s_is_between) .none kV25 dc25 pm25 an25 cd25 ct25), sl25⟩) (c25 : PySem.W.codeIn K cd25 "is_between" = true) (k25 : PySem.W.keepIn K (.ref f25) = true)
    (a26 : PySem.W.nsIn K mainGlobals "law" = some (some (.ref f26))) (l26 : K.lookup f26 = some ⟨oc26, od26, .func (PySem.W.fnOf "law" "law" (defArgs s_law) (defBody s_law) (defScope s_law) .none kV26 dc26 pm26 an26 cd26 ct26), sl26⟩) (c26 : PySem.W.codeIn K cd26 "law" = true) (k26 : PySem.W.keepIn K (.ref f26) = true)
    (z0 : PySem.W.nsIn K mainGlobals "abs" = some none)
    (z1 : PySem.W.nsIn K mainGlobals "bool" = some none)
    (z2 : PySem.W.nsIn K mainGlobals "gcd" = some (some (.builtin "math.gcd")))
    (z3 : PySem.W.nsIn K mainGlobals "int" = some none)
    (z4 : PySem.W.nsIn K mainGlobals "isinstance" = some none)
    (z5 : PySem.W.nsIn K mainGlobals "len" = some none)
    (z6 : PySem.W.nsIn K mainGlobals "max" = some none)
    (z7 : PySem.W.nsIn K mainGlobals "min" = some none)
    (z8 : PySem.W.nsIn K mainGlobals "range" = some none)
    (z9 : PySem.W.nsIn K mainGlobals "str" = some none)
    (z10 : PySem.W.nsIn K mainGlobals "tuple" = some none)
    (z11 : PySem.W.nsIn K mainGlobals "zip" = some none) :
    ∃ fd : FuncData, (∀ (s : Shared) (v : Value), BindsTo s fd ⟨[v], []⟩ [("script", v)]) ∧ ∀ base : Heap, K.In base → base.Ns mainGlobals mg → FnOk l.prog w K mg base CX0 6 fa fd ["script"] (spD K (lawS 63)) := by
  have e := hfa.symm.trans (PySem.W.mg_of X G a26)
  cases e
  have A0 : At1 K mg "_law_cell" s_law_cell p_law_cell f0 (PySem.W.fnOf "_law_cell" "_law_cell" (defArgs s_law_cell) (defBody s_law_cell) (defScope s_law_cell) .none kV0 dc0 pm0 an0 cd0 ct0) := ⟨fun_mk (st := s_law_cell) l0 c0 k0, PySem.W.mg_of X G a0, (fun_mk (st := s_law_cell) l0 c0 k0).binds (ps := p_law_cell) fun _ _ _ _ _ _ us hl => match us, hl with | [_, _], _ => rfl⟩
  have A1 : At1 K mg "_law_digits" s_law_digits p_law_digits f1 (PySem.W.fnOf "_law_digits" "_law_digits" (defArgs s_law_digits) (defBody s_law_digits) (defScope s_law_digits) .none kV1 dc1 pm1 an1 cd1 ct1) := ⟨fun_mk (st := s_law_digits) l1 c1 k1, PySem.W.mg_of X G a1, (fun_mk (st := s_law_digits) l1 c1 k1).binds (ps := p_law_digits) fun _ _ _ _ _ _ us hl => match us, hl with | [_, _, _], _ => rfl⟩
  have A2 : At1 K mg "_law_draw" s_law_draw p_law_draw f2 (PySem.W.fnOf "_law_draw" "_law_draw" (defArgs s_law_draw) (defBody s_law_draw) (defScope s_law_draw) .none kV2 dc2 pm2 an2 cd2 ct2) := ⟨fun_mk (st := s_law_draw) l2 c2 k2, PySem.W.mg_of X G a2, (fun_mk (st := s_law_draw) l2 c2 k2).binds (ps := p_law_draw) fun _ _ _ _ _ _ us hl => match us, hl with | [_, _], _ => rfl⟩
  have A3 : At1 K mg "_law_pick" s_law_pick p_law_pick f3 (PySem.W.fnOf "_law_pick" "_law_pick" (defArgs s_law_pick) (defBody s_law_pick) (defScope s_law_pick) .none kV3 dc3 pm3 an3 cd3 ct3) := ⟨fun_mk (st := s_law_pick) l3 c3 k3, PySem.W.mg_of X G a3, (fun_mk (st := s_law_pick) l3 c3 k3).binds (ps := p_law_pick) fun _ _ _ _ _ _ us hl => match us, hl with | [_, _], _ => rfl⟩
  have A4 : At1 K mg "_law_gcd" s_law_gcd p_law_gcd f4 (PySem.W.fnOf "_law_gcd" "_law_gcd" (defArgs s_law_gcd) (defBody s_law_gcd) (defScope s_law_gcd) .none kV4 dc4 pm4 an4 cd4 ct4) := ⟨fun_mk (st := s_law_gcd) l4 c4 k4, PySem.W.mg_of X G a4, (fun_mk (st := s_law_gcd) l4 c4 k4).binds (ps := p_law_gcd) fun _ _ _ _ _ _ us hl => match us, hl with | [_, _], _ => rfl⟩
  have A5 : At1 K mg "_law_ratio" s_law_ratio p_law_ratio f5 (PySem.W.fnOf "_law_ratio" "_law_ratio" (defArgs s_law_ratio) (defBody s_law_ratio) (defScope s_law_ratio) .none kV5 dc5 pm5 an5 cd5 ct5) := ⟨fun_mk (st := s_law_ratio) l5 c5 k5, PySem.W.mg_of X G a5, (fun_mk (st := s_law_ratio) l5 c5 k5).binds (ps := p_law_ratio) fun _ _ _ _ _ _ us hl => match us, hl with | [_, _], _ => rfl⟩
  have A6 : At1 K mg "_law_less" s_law_less p_law_less f6 (PySem.W.fnOf "_law_less" "_law_less" (defArgs s_law_less) (defBody s_law_less) (defScope s_law_less) .none kV6 dc6 pm6 an6 cd6 ct6) := ⟨fun_mk (st := s_law_less) l6 c6 k6, PySem.W.mg_of X G a6, (fun_mk (st := s_law_less) l6 c6 k6).binds (ps := p_law_less) fun _ _ _ _ _ _ us hl => match us, hl with | [_, _], _ => rfl⟩
  have A7 : At1 K mg "_law_tried" s_law_tried p_law_tried f7 (PySem.W.fnOf "_law_tried" "_law_tried" (defArgs s_law_tried) (defBody s_law_tried) (defScope s_law_tried) .none kV7 dc7 pm7 an7 cd7 ct7) := ⟨fun_mk (st := s_law_tried) l7 c7 k7, PySem.W.mg_of X G a7, (fun_mk (st := s_law_tried) l7 c7 k7).binds (ps := p_law_tried) fun _ _ _ _ _ _ us hl => match us, hl with | [_, _], _ => rfl⟩
  have A8 : At1 K mg "_law_like" s_law_like p_law_like f8 (PySem.W.fnOf "_law_like" "_law_like" (defArgs s_law_like) (defBody s_law_like) (defScope s_law_like) .none kV8 dc8 pm8 an8 cd8 ct8) := ⟨fun_mk (st := s_law_like) l8 c8 k8, PySem.W.mg_of X G a8, (fun_mk (st := s_law_like) l8 c8 k8).binds (ps := p_law_like) fun _ _ _ _ _ _ us hl => match us, hl with | [_, _], _ => rfl⟩
  have A9 : At1 K mg "advanced" s_advanced p_advanced f9 (PySem.W.fnOf "advanced" "advanced" (defArgs s_advanced) (defBody s_advanced) (defScope s_advanced) .none kV9 dc9 pm9 an9 cd9 ct9) := ⟨fun_mk (st := s_advanced) l9 c9 k9, PySem.W.mg_of X G a9, (fun_mk (st := s_advanced) l9 c9 k9).binds (ps := p_advanced) fun _ _ _ _ _ _ us hl => match us, hl with | [_, _, _, _], _ => rfl⟩
  have A10 : At1 K mg "between" s_between p_between f10 (PySem.W.fnOf "between" "between" (defArgs s_between) (defBody s_between) (defScope s_between) .none kV10 dc10 pm10 an10 cd10 ct10) := ⟨fun_mk (st := s_between) l10 c10 k10, PySem.W.mg_of X G a10, (fun_mk (st := s_between) l10 c10 k10).binds (ps := p_between) fun _ _ _ _ _ _ us hl => match us, hl with | [_, _], _ => rfl⟩
  have A11 : At1 K mg "below" s_below p_below f11 (PySem.W.fnOf "below" "below" (defArgs s_below) (defBody s_below) (defScope s_below) .none kV11 dc11 pm11 an11 cd11 ct11) := ⟨fun_mk (st := s_below) l11 c11 k11, PySem.W.mg_of X G a11, (fun_mk (st := s_below) l11 c11 k11).binds (ps := p_below) fun _ _ _ _ _ _ us hl => match us, hl with | [_, _], _ => rfl⟩
  have A12 : At1 K mg "above" s_above p_above f12 (PySem.W.fnOf "above" "above" (defArgs s_above) (defBody s_above) (defScope s_above) .none kV12 dc12 pm12 an12 cd12 ct12) := ⟨fun_mk (st := s_above) l12 c12 k12, PySem.W.mg_of X G a12, (fun_mk (st := s_above) l12 c12 k12).binds (ps := p_above) fun _ _ _ _ _ _ us hl => match us, hl with | [_, _], _ => rfl⟩
  have A13 : At1 K mg "compare" s_compare p_compare f13 (PySem.W.fnOf "compare" "compare" (defArgs s_compare) (defBody s_compare) (defScope s_compare) .none kV13 dc13 pm13 an13 cd13 ct13) := ⟨fun_mk (st := s_compare) l13 c13 k13, PySem.W.mg_of X G a13, (fun_mk (st := s_compare) l13 c13 k13).binds (ps := p_compare) fun _ _ _ _ _ _ us hl => match us, hl with | [_, _], _ => rfl⟩
  have A14 : At1 K mg "ratio" s_ratio p_ratio f14 (PySem.W.fnOf "ratio" "ratio" (defArgs s_ratio) (defBody s_ratio) (defScope s_ratio) .none kV14 dc14 pm14 an14 cd14 ct14) := ⟨fun_mk (st := s_ratio) l14 c14 k14, PySem.W.mg_of X G a14, (fun_mk (st := s_ratio) l14 c14 k14).binds (ps := p_ratio) fun _ _ _ _ _ _ us hl => match us, hl with | [_, _], _ => rfl⟩
  have A15 : At1 K mg "minus" s_minus p_minus f15 (PySem.W.fnOf "minus" "minus" (defArgs s_minus) (defBody s_minus) (defScope s_minus) .none kV15 dc15 pm15 an15 cd15 ct15) := ⟨fun_mk (st := s_minus) l15 c15 k15, PySem.W.mg_of X G a15, (fun_mk (st := s_minus) l15 c15 k15).binds (ps := p_minus) fun _ _ _ _ _ _ us hl => match us, hl with | [_, _], _ => rfl⟩
  have A16 : At1 K mg "nearest" s_nearest p_nearest f16 (PySem.W.fnOf "nearest" "nearest" (defArgs s_nearest) (defBody s_nearest) (defScope s_nearest) .none kV16 dc16 pm16 an16 cd16 ct16) := ⟨fun_mk (st := s_nearest) l16 c16 k16, PySem.W.mg_of X G a16, (fun_mk (st := s_nearest) l16 c16 k16).binds (ps := p_nearest) fun _ _ _ _ _ _ us hl => match us, hl with | [_, _], _ => rfl⟩
  have A17 : At1 K mg "_law_minus" s_law_minus p_law_minus f17 (PySem.W.fnOf "_law_minus" "_law_minus" (defArgs s_law_minus) (defBody s_law_minus) (defScope s_law_minus) .none kV17 dc17 pm17 an17 cd17 ct17) := ⟨fun_mk (st := s_law_minus) l17 c17 k17, PySem.W.mg_of X G a17, (fun_mk (st := s_law_minus) l17 c17 k17).binds (ps := p_law_minus) fun _ _ _ _ _ _ us hl => match us, hl with | [_, _], _ => rfl⟩
  have A18 : At1 K mg "_law_near" s_law_near p_law_near f18 (PySem.W.fnOf "_law_near" "_law_near" (defArgs s_law_near) (defBody s_law_near) (defScope s_law_near) .none kV18 dc18 pm18 an18 cd18 ct18) := ⟨fun_mk (st := s_law_near) l18 c18 k18, PySem.W.mg_of X G a18, (fun_mk (st := s_law_near) l18 c18 k18).binds (ps := p_law_near) fun _ _ _ _ _ _ us hl => match us, hl with | [_, _, _], _ => rfl⟩
  have A19 : At1 K mg "_law_number" s_law_number p_law_number f19 (PySem.W.fnOf "_law_number" "_law_number" (defArgs s_law_number) (defBody s_law_number) (defScope s_law_number) .none kV19 dc19 pm19 an19 cd19 ct19) := ⟨fun_mk (st := s_law_number) l19 c19 k19, PySem.W.mg_of X G a19, (fun_mk (st := s_law_number) l19 c19 k19).binds (ps := p_law_number) fun _ _ _ _ _ _ us hl => match us, hl with | [_, _, _], _ => rfl⟩
  have A20 : At1 K mg "_law_is_within" s_law_is_within p_law_is_within f20 (PySem.W.fnOf "_law_is_within" "_law_is_within" (defArgs s_law_is_within) (defBody s_law_is_within) (defScope s_law_is_within) .none kV20 dc20 pm20 an20 cd20 ct20) := ⟨fun_mk (st := s_law_is_within) l20 c20 k20, PySem.W.mg_of X G a20, (fun_mk (st := s_law_is_within) l20 c20 k20).binds (ps := p_law_is_within) fun _ _ _ _ _ _ us hl => match us, hl with | [_, _], _ => rfl⟩
  have A21 : At1 K mg "_law_right" s_law_right p_law_right f21 (PySem.W.fnOf "_law_right" "_law_right" (defArgs s_law_right) (defBody s_law_right) (defScope s_law_right) .none kV21 dc21 pm21 an21 cd21 ct21) := ⟨fun_mk (st := s_law_right) l21 c21 k21, PySem.W.mg_of X G a21, (fun_mk (st := s_law_right) l21 c21 k21).binds (ps := p_law_right) fun _ _ _ _ _ _ us hl => match us, hl with | [_, _, _], _ => rfl⟩
  have A22 : At1 K mg "is_integer" s_is_integer p_is_integer f22 (PySem.W.fnOf "is_integer" "is_integer" (defArgs s_is_integer) (defBody s_is_integer) (defScope s_is_integer) .none kV22 dc22 pm22 an22 cd22 ct22) := ⟨fun_mk (st := s_is_integer) l22 c22 k22, PySem.W.mg_of X G a22, (fun_mk (st := s_is_integer) l22 c22 k22).binds (ps := p_is_integer) fun _ _ _ _ _ _ us hl => match us, hl with | [_], _ => rfl⟩
  have A23 : At1 K mg "is_ratio" s_is_ratio p_is_ratio f23 (PySem.W.fnOf "is_ratio" "is_ratio" (defArgs s_is_ratio) (defBody s_is_ratio) (defScope s_is_ratio) .none kV23 dc23 pm23 an23 cd23 ct23) := ⟨fun_mk (st := s_is_ratio) l23 c23 k23, PySem.W.mg_of X G a23, (fun_mk (st := s_is_ratio) l23 c23 k23).binds (ps := p_is_ratio) fun _ _ _ _ _ _ us hl => match us, hl with | [_], _ => rfl⟩
  have A24 : At1 K mg "is_within" s_is_within p_is_within f24 (PySem.W.fnOf "is_within" "is_within" (defArgs s_is_within) (defBody s_is_within) (defScope s_is_within) .none kV24 dc24 pm24 an24 cd24 ct24) := ⟨fun_mk (st := s_is_within) l24 c24 k24, PySem.W.mg_of X G a24, (fun_mk (st := s_is_within) l24 c24 k24).binds (ps := p_is_within) fun _ _ _ _ _ _ us hl => match us, hl with | [_, _], _ => rfl⟩
  have A25 : At1 K mg "is_between" s_is_between p_is_between f25 (PySem.W.fnOf "is_between" "is_between" (defArgs s_is_between) (defBody s_is_between) (defScope s_is_between) .none kV25 dc25 pm25 an25 cd25 ct25) := ⟨fun_mk (st := s_is_between) l25 c25 k25, PySem.W.mg_of X G a25, (fun_mk (st := s_is_between) l25 c25 k25).binds (ps := p_is_between) fun _ _ _ _ _ _ us hl => match us, hl with | [_, _, _], _ => rfl⟩
  have A26 : At1 K mg "law" s_law p_law fa (PySem.W.fnOf "law" "law" (defArgs s_law) (defBody s_law) (defScope s_law) .none kV26 dc26 pm26 an26 cd26 ct26) := ⟨fun_mk (st := s_law) l26 c26 k26, PySem.W.mg_of X G a26, (fun_mk (st := s_law) l26 c26 k26).binds (ps := p_law) fun _ _ _ _ _ _ us hl => match us, hl with | [_], _ => rfl⟩
  have T : Txt mg := ⟨PySem.W.mg_none_of X G z0, PySem.W.mg_none_of X G z1, PySem.W.mg_of X G z2, PySem.W.mg_none_of X G z3, PySem.W.mg_none_of X G z4, PySem.W.mg_none_of X G z5, PySem.W.mg_none_of X G z6, PySem.W.mg_none_of X G z7, PySem.W.mg_none_of X G z8, PySem.W.mg_none_of X G z9, PySem.W.mg_none_of X G z10, PySem.W.mg_none_of X G z11⟩
  refine ⟨PySem.W.fnOf "law" "law" (defArgs s_law) (defBody s_law) (defScope s_law) .none kV26 dc26 pm26 an26 cd26 ct26, fun s v => .of_eq rfl, fun base _ _ => ?_⟩
  have d0 : DFn l.prog w K mg base "_law_cell" 1 S_cell := der_law_cell A0 T  (k := 0)  sem_cell
  have d1 : DFn l.prog w K mg base "_law_digits" 2 S_digits := der_law_digits A1 T d0 (k := 1) (by decide) sem_digits
  have d2 : DFn l.prog w K mg base "_law_draw" 1 S_draw := der_law_draw A2 T  (k := 0)  sem_draw
  have d3 : DFn l.prog w K mg base "_law_pick" 2 S_law_pick := der_law_pick A3 T d2 (k := 1) (by decide) sem_law_pick
  have d4 : DFn l.prog w K mg base "_law_gcd" 1 S_gcd := der_law_gcd A4 T  (k := 0)  sem_gcd
  have d5 : DFn l.prog w K mg base "_law_ratio" 2 S_lratio := der_law_ratio A5 T d4 (k := 1) (by decide) sem_lratio
  have d6 : DFn l.prog w K mg base "_law_less" 1 S_less := der_law_less A6 T  (k := 0)  sem_less
  have d7 : DFn l.prog w K mg base "_law_tried" 3 S_law_tried := der_law_tried A7 T d6 d5 (k := 2) (by decide) (by decide) sem_law_tried
  have d8_p : DFn l.prog w K mg base "_law_like" 1 (S_likeP 0) := dfn_no A8 sc_law_like (by decide)
  have d8_0 : DFn l.prog w K mg base "_law_like" 2 (S_like 0) := der_law_like A8 T d8_p (k := 1) (by decide) (sem_like 0)
  have d8_1 : DFn l.prog w K mg base "_law_like" 3 (S_like 1) := der_law_like A8 T d8_0 (k := 2) (by decide) (sem_like 1)
  have d8_2 : DFn l.prog w K mg base "_law_like" 4 (S_like 2) := der_law_like A8 T d8_1 (k := 3) (by decide) (sem_like 2)
  have d8 := d8_2
  have d9 : DFn l.prog w K mg base "advanced" 1 S_advanced := der_advanced A9 T  (k := 0)  sem_advanced
  have d10 : DFn l.prog w K mg base "between" 2 S_between := der_between A10 T d9 (k := 1) (by decide) sem_between
  have d11 : DFn l.prog w K mg base "below" 3 S_below := der_below A11 T d10 (k := 2) (by decide) sem_below
  have d12 : DFn l.prog w K mg base "above" 3 S_above := der_above A12 T d10 (k := 2) (by decide) sem_above
  have d13 : DFn l.prog w K mg base "compare" 1 S_compare := der_compare A13 T  (k := 0)  sem_compare
  have d14 : DFn l.prog w K mg base "ratio" 1 S_ratio := der_ratio A14 T  (k := 0)  sem_ratio
  have d15 : DFn l.prog w K mg base "minus" 2 S_minus := der_minus A15 T d14 (k := 1) (by decide) sem_minus
  have d16 : DFn l.prog w K mg base "nearest" 3 S_nearest := der_nearest A16 T d10 d13 d15 (k := 2) (by decide) (by decide) (by decide) sem_nearest
  have d17 : DFn l.prog w K mg base "_law_minus" 3 S_lminus := der_law_minus A17 T d5 (k := 2) (by decide) sem_lminus
  have d18 : DFn l.prog w K mg base "_law_near" 4 S_law_near := der_law_near A18 T d6 d17 (k := 3) (by decide) (by decide) sem_law_near
  have d19 : DFn l.prog w K mg base "_law_number" 1 S_number := der_law_number A19 T  (k := 0)  sem_number
  have d20 : DFn l.prog w K mg base "_law_is_within" 2 S_within := der_law_is_within A20 T d19 d4 (k := 1) (by decide) (by decide) sem_law_is_within
  have d21 : DFn l.prog w K mg base "_law_right" 5 S_law_right := der_law_right A21 T d8 d20 d6 (k := 4) (by decide) (by decide) (by decide) sem_law_right
  have d22 : DFn l.prog w K mg base "is_integer" 1 S_is_integer := der_is_integer A22 T  (k := 0)  sem_is_integer
  have d23 : DFn l.prog w K mg base "is_ratio" 2 S_is_ratio := der_is_ratio A23 T d22 (k := 1) (by decide) sem_is_ratio
  have d24 : DFn l.prog w K mg base "is_within" 3 S_within := der_is_within A24 T d23 (k := 2) (by decide) sem_is_within
  have d25 : DFn l.prog w K mg base "is_between" 4 S_is_between := der_is_between A25 T d24 d13 (k := 3) (by decide) (by decide) sem_is_between
  exact der_law A26 T d1 d2 d3 d5 d7 d8 d11 d12 d16 d18 d10 d21 d25 (k := 5) (by decide) (by decide) (by decide) (by decide) (by decide) (by decide) (by decide) (by decide) (by decide) (by decide) (by decide) (by decide) (by decide) (law_sem law_run)
end Lk13
open PySem PySem.W PyProof.Rows
set_option maxHeartbeats 0 in
theorem PySem.Challenge.cw_truewheel_k13_nearest_between_holds : PySem.Challenge.rw_truewheel_k13_nearest_between.Holds := by
  w_on; o_law; k_head; (case hw => w_witness2)
  k_fill
  refine L2.walk_ofK (l := PySem.Challenge.rw_truewheel_k13_nearest_between) (n := 63) (k := 6) (x := "script") (CX := L2.CX0) (sp := fun K => DL.spD K (DL.lawS 63)) rfl (by decide) rfl ⟨rfl, by decide, by decide⟩ (fun w h Y => PySem.W.kIn_of Y) ?F (fun K H a ns hl _ hS => DL.law_sp K H a ns hl hS) (fun _ _ _ _ h => h)
  case F =>
    intro w mg fa h KX G hmg
    refine' Lk13.all_mk KX G hmg ?a0 ?l0 ?c0 ?k0 ?a1 ?l1 ?c1 ?k1 ?a2 ?l2 ?c2 ?k2 ?a3 ?l3 ?c3 ?k3 ?a4 ?l4 ?c4 ?k4 ?a5 ?l5 ?c5 ?k5 ?a6 ?l6 ?c6 ?k6 ?a7 ?l7 ?c7 ?k7 ?a8 ?l8 ?c8 ?k8 ?a9 ?l9 ?c9 ?k9 ?a10 ?l10 ?c10 ?k10 ?a11 ?l11 ?c11 ?k11 ?a12 ?l12 ?c12 ?k12 ?a13 ?l13 ?c13 ?k13 ?a14 ?l14 ?c14 ?k14 ?a15 ?l15 ?c15 ?k15 ?a16 ?l16 ?c16 ?k16 ?a17 ?l17 ?c17 ?k17 ?a18 ?l18 ?c18 ?k18 ?a19 ?l19 ?c19 ?k19 ?a20 ?l20 ?c20 ?k20 ?a21 ?l21 ?c21 ?k21 ?a22 ?l22 ?c22 ?k22 ?a23 ?l23 ?c23 ?k23 ?a24 ?l24 ?c24 ?k24 ?a25 ?l25 ?c25 ?k25 ?a26 ?l26 ?c26 ?k26 ?z0 ?z1 ?z2 ?z3 ?z4 ?z5 ?z6 ?z7 ?z8 ?z9 ?z10 ?z11
    (case a0 => k_is); (case l0 => k_is); (case c0 => k_is); (case k0 => k_is); (case a1 => k_is); (case l1 => k_is); (case c1 => k_is); (case k1 => k_is); (case a2 => k_is); (case l2 => k_is); (case c2 => k_is); (case k2 => k_is); (case a3 => k_is); (case l3 => k_is); (case c3 => k_is); (case k3 => k_is); (case a4 => k_is); (case l4 => k_is); (case c4 => k_is); (case k4 => k_is); (case a5 => k_is); (case l5 => k_is); (case c5 => k_is); (case k5 => k_is); (case a6 => k_is); (case l6 => k_is); (case c6 => k_is); (case k6 => k_is); (case a7 => k_is); (case l7 => k_is); (case c7 => k_is); (case k7 => k_is); (case a8 => k_is); (case l8 => k_is); (case c8 => k_is); (case k8 => k_is); (case a9 => k_is); (case l9 => k_is); (case c9 => k_is); (case k9 => k_is); (case a10 => k_is); (case l10 => k_is); (case c10 => k_is); (case k10 => k_is); (case a11 => k_is); (case l11 => k_is); (case c11 => k_is); (case k11 => k_is); (case a12 => k_is); (case l12 => k_is); (case c12 => k_is); (case k12 => k_is); (case a13 => k_is); (case l13 => k_is); (case c13 => k_is); (case k13 => k_is); (case a14 => k_is); (case l14 => k_is); (case c14 => k_is); (case k14 => k_is); (case a15 => k_is); (case l15 => k_is); (case c15 => k_is); (case k15 => k_is); (case a16 => k_is); (case l16 => k_is); (case c16 => k_is); (case k16 => k_is); (case a17 => k_is); (case l17 => k_is); (case c17 => k_is); (case k17 => k_is); (case a18 => k_is); (case l18 => k_is); (case c18 => k_is); (case k18 => k_is); (case a19 => k_is); (case l19 => k_is); (case c19 => k_is); (case k19 => k_is); (case a20 => k_is); (case l20 => k_is); (case c20 => k_is); (case k20 => k_is); (case a21 => k_is); (case l21 => k_is); (case c21 => k_is); (case k21 => k_is); (case a22 => k_is); (case l22 => k_is); (case c22 => k_is); (case k22 => k_is); (case a23 => k_is); (case l23 => k_is); (case c23 => k_is); (case k23 => k_is); (case a24 => k_is); (case l24 => k_is); (case c24 => k_is); (case k24 => k_is); (case a25 => k_is); (case l25 => k_is); (case c25 => k_is); (case k25 => k_is); (case a26 => k_is); (case l26 => k_is); (case c26 => k_is); (case k26 => k_is); (case z0 => k_is); (case z1 => k_is); (case z2 => k_is); (case z3 => k_is); (case z4 => k_is); (case z5 => k_is); (case z6 => k_is); (case z7 => k_is); (case z8 => k_is); (case z9 => k_is); (case z10 => k_is); (case z11 => k_is)

